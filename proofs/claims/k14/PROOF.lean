import PyProof.Rows.All
import PySem.Str
import Wide.All
import OpenK.AllK
import HandS.Base
import HandS.Call
import HandS.List
import HandS.TupAny
import HandS.Zip
import Wide.FinOn
import HandS.ForMost
import HandS.Exc
import HandS.WordsExc
import HandS.CallSlots
import HandS.Wide
import HandS.IsInst
import PyProof.P3In
import PyProof.Rows.RuleB_pow
import KE.KRevSl
import HandS.Style
import HandS.EndBits
import HandS.Codes
import HandS.SetFor
import HandS.Strs
import PyProof.ReprRoads
import HandS.SortInts
import HandS.TryMany
import HandS.ExcField
import HandS.RaiseMore
import HandS.ExcInit
import KE.KExcIs
import HandS.Dict
import OpenK.KWalk
import OpenK.KOps
import OpenK.KMeth
import KE.KOpsOwn
import HandS.Flow
import HandS.Text
import PyProof.ListStr
import HandS.DictComp
import HandS.Defaults
import OpenK.KMake
import HandS.NamedTupSort
import PySem.Challenge.RW_sheetback_k14_sendings_refused
/-! Tr: values as trees, and what each construct of Python does with them: plain Lean functions, no heap.
A mutable node (list, dict, set, instance) has a flag w: true says that nothing else holds it (it may be written). -/
set_option autoImplicit false
namespace Tr
open PySem (Str)

abbrev Key := Sum Int Str

inductive PV where
  | non | bl (b : Bool) | int (i : Int) | str (x : Str)
  | tup (xs : List PV)
  | lst (w : Bool) (xs : List PV)
  | dct (w : Bool) (ks : List Key) (vs : List PV)
  | ins (w : Bool) (c : Nat) (vs : List PV)
  | con (k : Nat)
  | exc (k : Nat) (vs : List PV)
  deriving Inhabited

mutual
/-- no node that may be written within -/
def fro : PV → Bool
  | .tup xs => fros xs
  | .lst w xs => !w && fros xs
  | .dct w _ vs => !w && fros vs
  | .ins w _ vs => !w && fros vs
  | .non => true | .bl _ => true | .int _ => true | .str _ => true | .con _ => true
  | .exc _ vs => fros vs
def fros : List PV → Bool
  | [] => true
  | x :: xs => fro x && fros xs
end
mutual
/-- from now on nothing within is written -/
def frz : PV → PV
  | .tup xs => .tup (frzs xs)
  | .lst _ xs => .lst false (frzs xs)
  | .dct _ ks vs => .dct false ks (frzs vs)
  | .ins _ c vs => .ins false c (frzs vs)
  | .non => .non | .bl b => .bl b | .int i => .int i | .str x => .str x | .con k => .con k
  | .exc k vs => .exc k (frzs vs)
def frzs : List PV → List PV
  | [] => []
  | x :: xs => frz x :: frzs xs
end
theorem fros_eq (xs : List PV) : fros xs = xs.all fro := by
  induction xs with
  | nil => rfl
  | cons x xs ih => simp [fros, ih]
theorem frzs_eq (xs : List PV) : frzs xs = xs.map frz := by
  induction xs with
  | nil => rfl
  | cons x xs ih => simp [frzs, ih]
mutual
theorem frz_of_fro : ∀ {v : PV}, fro v = true → frz v = v
  | .tup xs, h => by rw [fro] at h; rw [frz, frzs_of_fros h]
  | .lst w xs, h => by
    rw [fro] at h; simp only [Bool.and_eq_true, Bool.not_eq_true'] at h
    rw [frz, frzs_of_fros h.2, h.1]
  | .dct w ks vs, h => by
    rw [fro] at h; simp only [Bool.and_eq_true, Bool.not_eq_true'] at h
    rw [frz, frzs_of_fros h.2, h.1]
  | .ins w c vs, h => by
    rw [fro] at h; simp only [Bool.and_eq_true, Bool.not_eq_true'] at h
    rw [frz, frzs_of_fros h.2, h.1]
  | .non, _ => rfl | .bl _, _ => rfl | .int _, _ => rfl | .str _, _ => rfl | .con _, _ => rfl
  | .exc k vs, h => by rw [fro] at h; rw [frz, frzs_of_fros h]
theorem frzs_of_fros : ∀ {xs : List PV}, fros xs = true → frzs xs = xs
  | [], _ => rfl
  | x :: xs, h => by
    rw [fros] at h; simp only [Bool.and_eq_true] at h
    rw [frzs, frz_of_fro h.1, frzs_of_fros h.2]
end
mutual
theorem fro_frz : ∀ (v : PV), fro (frz v) = true
  | .tup xs => by rw [frz, fro]; exact fros_frzs xs
  | .lst w xs => by rw [frz, fro]; simp [fros_frzs xs]
  | .dct w ks vs => by rw [frz, fro]; simp [fros_frzs vs]
  | .ins w c vs => by rw [frz, fro]; simp [fros_frzs vs]
  | .non => rfl | .bl _ => rfl | .int _ => rfl | .str _ => rfl | .con _ => rfl
  | .exc k vs => by rw [frz, fro]; exact fros_frzs vs
theorem fros_frzs : ∀ (xs : List PV), fros (frzs xs) = true
  | [] => rfl
  | x :: xs => by rw [frzs, fros, fro_frz x, fros_frzs xs]; rfl
end

/-- the slots of a def -/
abbrev Env := List (Option PV)
/-- an exception: its class, its fields -/
structure PExc where
  cls : Nat
  vals : List PV
inductive Res (α : Type) where
  | ok (a : α) (ρ : Env)
  | er (e : PExc) (ρ : Env)
  | bad
def Res.bind {α β : Type} (r : Res α) (k : α → Env → Res β) : Res β := match r with
  | .ok a ρ => k a ρ
  | .er e ρ => .er e ρ
  | .bad => .bad
@[simp] theorem Res.bind_ok {α β : Type} (a : α) (ρ : Env) (k : α → Env → Res β) : Res.bind (.ok a ρ) k = k a ρ := rfl
@[simp] theorem Res.bind_er {α β : Type} (e : PExc) (ρ : Env) (k : α → Env → Res β) : Res.bind (.er e ρ) k = .er e ρ := rfl
@[simp] theorem Res.bind_bad {α β : Type} (k : α → Env → Res β) : Res.bind .bad k = .bad := rfl
/-- a value that is asked for: none is bad -/
def Res.of {α : Type} (o : Option α) (ρ : Env) : Res α := match o with
  | some a => .ok a ρ
  | none => .bad
@[simp] theorem Res.of_some {α : Type} (a : α) (ρ : Env) : Res.of (some a) ρ = .ok a ρ := rfl
@[simp] theorem Res.of_none {α : Type} (ρ : Env) : (Res.of none ρ : Res α) = .bad := rfl
abbrev EF := Env → Res PV
abbrev TF := Env → Res Bool
inductive SR where
  | nx (ρ : Env) | rt (v : PV) (ρ : Env) | bk (ρ : Env) | ct (ρ : Env) | er (e : PExc) (ρ : Env) | bad
abbrev SF := Env → SR
inductive FR where
  | ok (v : PV) (as : List PV) | er (e : PExc) (as : List PV) | bad
abbrev FF := List PV → FR

/-! ### operands: a name that is only looked at, or an expression -/
inductive Opd where
  | nm (i : Nat)
  | ev (f : EF)
def slot (ρ : Env) (i : Nat) : Option PV := (ρ[i]?).join
def Opd.go (o : Opd) (ρ : Env) : Res (Option PV) := match o with
  | .nm i => match slot ρ i with
    | some _ => .ok none ρ
    | none => .bad
  | .ev f => (f ρ).bind fun v ρ1 => .ok (some v) ρ1
def Opd.get (o : Opd) (t : Option PV) (ρ : Env) : Option PV := match o with
  | .nm i => slot ρ i
  | .ev _ => t
/-- one operand, looked at: what comes of it is atomic or new -/
def op1 {β : Type} (a : Opd) (k : PV → Option β) (ρ : Env) : Res β :=
  (a.go ρ).bind fun t ρ1 => .of ((a.get t ρ1).bind k) ρ1
def op2 {β : Type} (a b : Opd) (k : PV → PV → Option β) (ρ : Env) : Res β :=
  (a.go ρ).bind fun t ρ1 => (b.go ρ1).bind fun u ρ2 => .of ((a.get t ρ2).bind fun v => (b.get u ρ2).bind fun w => k v w) ρ2
def op3 {β : Type} (a b c : Opd) (k : PV → PV → PV → Option β) (ρ : Env) : Res β :=
  (a.go ρ).bind fun t ρ1 => (b.go ρ1).bind fun u ρ2 => (c.go ρ2).bind fun x ρ3 =>
    .of ((a.get t ρ3).bind fun v => (b.get u ρ3).bind fun w => (c.get x ρ3).bind fun z => k v w z) ρ3

/-! ### expressions -/
def eC (v : PV) : EF := fun ρ => .ok v ρ
/-- a name as a value: its slot is held twice from now on, so nothing within is written -/
def eNm (i : Nat) : EF := fun ρ => match slot ρ i with
  | some v => .ok (frz v) (ρ.set i (some (frz v)))
  | none => .bad
/-- a name for the last time (return x): its slot is given away -/
def eMv (i : Nat) : EF := fun ρ => match slot ρ i with
  | some v => .ok v (ρ.set i none)
  | none => .bad
/-- arguments, from the left -/
abbrev AF := Env → Res (List PV)
def aNil : AF := fun ρ => .ok [] ρ
def aCons (f : EF) (g : AF) : AF := fun ρ => (f ρ).bind fun v ρ1 => (g ρ1).bind fun vs ρ2 => .ok (v :: vs) ρ2
def eTup (g : AF) : EF := fun ρ => (g ρ).bind fun vs ρ1 => .ok (.tup vs) ρ1
def eLst (g : AF) : EF := fun ρ => (g ρ).bind fun vs ρ1 => .ok (.lst true vs) ρ1
/-- a test's answer as a value -/
def eT (t : TF) : EF := fun ρ => (t ρ).bind fun b ρ1 => .ok (.bl b) ρ1
def tE (f : EF) : TF := fun ρ => (f ρ).bind fun v ρ1 => match v with
  | .bl b => .ok b ρ1
  | _ => .bad
def tNot (t : TF) : TF := fun ρ => (t ρ).bind fun b ρ1 => .ok (!b) ρ1
def tAnd (t u : TF) : TF := fun ρ => (t ρ).bind fun b ρ1 => if b = true then u ρ1 else .ok false ρ1
def tOr (t u : TF) : TF := fun ρ => (t ρ).bind fun b ρ1 => if b = true then .ok true ρ1 else u ρ1
def eIf (t : TF) (f g : EF) : EF := fun ρ => (t ρ).bind fun b ρ1 => if b = true then f ρ1 else g ρ1

/-! ### statements -/
def sNx : SF := fun ρ => .nx ρ
def sSeq (s u : SF) : SF := fun ρ => match s ρ with
  | .nx ρ1 => u ρ1
  | r => r
def sBk : SF := fun ρ => .bk ρ
def sCt : SF := fun ρ => .ct ρ
def sOf {α : Type} (r : Res α) (k : α → Env → SR) : SR := match r with
  | .ok a ρ => k a ρ
  | .er e ρ => .er e ρ
  | .bad => .bad
@[simp] theorem sOf_ok {α : Type} (a : α) (ρ : Env) (k : α → Env → SR) : sOf (.ok a ρ) k = k a ρ := rfl
@[simp] theorem sOf_er {α : Type} (e : PExc) (ρ : Env) (k : α → Env → SR) : sOf (.er e ρ : Res α) k = .er e ρ := rfl
@[simp] theorem sOf_bad {α : Type} (k : α → Env → SR) : sOf (.bad : Res α) k = .bad := rfl
def sDo (f : EF) : SF := fun ρ => sOf (f ρ) fun _ ρ1 => .nx ρ1
def sRet (f : EF) : SF := fun ρ => sOf (f ρ) fun v ρ1 => .rt v ρ1
def sRetN : SF := fun ρ => .rt .non ρ
def sIf (t : TF) (a b : SF) : SF := fun ρ => sOf (t ρ) fun c ρ1 => if c = true then a ρ1 else b ρ1
def sSet (i : Nat) (f : EF) : SF := fun ρ => sOf (f ρ) fun v ρ1 => .nx (ρ1.set i (some v))

/-! ### a def -/
/-- what its arguments are behind it: a parameter that is never stored to is what its slot holds; else nothing may be written within -/
def outs : List Bool → List PV → Env → Option (List PV)
  | [], [], _ => some []
  | true :: fx, _ :: as, some v :: ρ => (outs fx as ρ).map (v :: ·)
  | false :: fx, a :: as, _ :: ρ => if fro a = true then (outs fx as ρ).map (a :: ·) else none
  | _, _, _ => none
def fin (fx : List Bool) (as : List PV) (v : PV) (ρ : Env) : FR := match outs fx as ρ with
  | some as' => .ok v as'
  | none => .bad
def finE (fx : List Bool) (as : List PV) (e : PExc) (ρ : Env) : FR := match outs fx as ρ with
  | some as' => .er e as'
  | none => .bad
/-- n slots; fx: for each parameter whether it is never stored to -/
def mk (fx : List Bool) (n : Nat) (body : SF) : FF := fun as =>
  if as.length = fx.length then
    match body (as.map some ++ List.replicate (n - fx.length) none) with
    | .nx ρ => fin fx as .non ρ
    | .rt v ρ => fin fx as v ρ
    | .er e ρ => finE fx as e ρ
    | _ => .bad
  else .bad
end Tr
/-! Tr: what the operators and built-ins yield on trees. none: not served. -/
set_option autoImplicit false
namespace Tr
open PySem (Str)

/-- the longest text, list, tuple -/
abbrev big : Nat := 16777216
def sOk (x : Str) : Bool := decide (x.length ≤ big) && x.cps.all (· < 0x110000)
def b2i (b : Bool) : Int := if b then 1 else 0

/-! ### allI -/
def mulOk (i j : Int) : Bool := decide (i.natAbs.log2 + j.natAbs.log2 < 1000000)
def divOk (j : Int) : Bool := decide (0 < j) && decide (j.natAbs.log2 < 9000)
def powOk (i j : Int) : Bool := decide (0 ≤ j) && decide (((i.natAbs.log2 + 1 : Nat) : Int) * j ≤ 134217728)

def bAdd : PV → PV → Option PV
  | .int i, .int j => some (.int (i + j))
  | .str x, .str y => if x.length + y.length ≤ big then some (.str (x ++ y)) else none
  | .lst _ xs, .lst _ ys => if fros xs && fros ys && decide (xs.length + ys.length ≤ big) then some (.lst true (xs ++ ys)) else none
  | .tup xs, .tup ys => if fros xs && fros ys && decide (xs.length + ys.length ≤ big) then some (.tup (xs ++ ys)) else none
  | _, _ => none
def bSub : PV → PV → Option PV
  | .int i, .int j => some (.int (i - j))
  | _, _ => none
def bMul : PV → PV → Option PV
  | .int i, .int j => if mulOk i j then some (.int (i * j)) else none
  | .str x, .int k => if decide (0 ≤ k) && decide (k ≤ 1000000) && decide (x.length * k.toNat ≤ big) then some (.str ⟨(List.replicate k.toNat x.cps.toList).flatten.toArray⟩) else none
  | _, _ => none
def bDiv : PV → PV → Option PV
  | .int i, .int j => if divOk j then some (.int (i / j)) else none
  | _, _ => none
def bMod : PV → PV → Option PV
  | .int i, .int j => if decide (0 < j) then some (.int (i % j)) else none
  | _, _ => none
def bPow : PV → PV → Option PV
  | .int i, .int j => if powOk i j then some (.int (i ^ j.toNat)) else none
  | _, _ => none
def uNeg : PV → Option PV
  | .int i => some (.int (-i))
  | _ => none

/-! ### comparisons -/
/-- data of at most that depth: nothing but None, truths, allI, texts, lists, tuples -/
def dat : Nat → PV → Bool
  | _, .non => true | _, .bl _ => true | _, .int _ => true | _, .str _ => true
  | 0, _ => false
  | n + 1, .tup xs => xs.all (dat n)
  | n + 1, .lst _ xs => xs.all (dat n)
  | _ + 1, _ => false
abbrev deep : Nat := 20
mutual
def eqv : PV → PV → Bool
  | .non, .non => true
  | .bl a, .bl b => a == b
  | .bl a, .int j => b2i a == j
  | .int i, .bl b => i == b2i b
  | .int i, .int j => i == j
  | .str x, .str y => x == y
  | .lst _ xs, .lst _ ys => eqvs xs ys
  | .tup xs, .tup ys => eqvs xs ys
  | _, _ => false
def eqvs : List PV → List PV → Bool
  | [], [] => true
  | x :: xs, y :: ys => eqv x y && eqvs xs ys
  | _, _ => false
end
def cEq (v w : PV) : Option Bool := if dat deep v && dat deep w then some (eqv v w) else none
def cNe (v w : PV) : Option Bool := if dat deep v && dat deep w then some (!eqv v w) else none
def cLt : PV → PV → Option Bool
  | .int i, .int j => some (decide (i < j))
  | _, _ => none
def cLe : PV → PV → Option Bool
  | .int i, .int j => some (decide (i ≤ j))
  | _, _ => none
def cGt : PV → PV → Option Bool
  | .int i, .int j => some (decide (j < i))
  | _, _ => none
def cGe : PV → PV → Option Bool
  | .int i, .int j => some (decide (j ≤ i))
  | _, _ => none
def cIsN : PV → Option Bool
  | .non => some true
  | .con _ => none
  | .exc .. => none
  | _ => some false
def cNotN (v : PV) : Option Bool := (cIsN v).map (!·)
/-- one sign in a text -/
def cIn : PV → PV → Option Bool
  | v, .lst _ xs => if dat deep v && xs.all (dat deep) then some (xs.any fun y => eqv y v) else none
  | v, .tup xs => if dat deep v && xs.all (dat deep) then some (xs.any fun y => eqv y v) else none
  | .str x, .str z => if x.length = 1 then some (decide (x.cps.getD 0 0 ∈ z.cps.toList)) else none
  | _, _ => none
def cNi (v w : PV) : Option Bool := (cIn v w).map (!·)

/-! ### places, slices -/
def ixN (n : Nat) (i : Int) : Option Nat := if 0 ≤ i then (if i < n then some i.toNat else none) else if -(n : Int) ≤ i then some (i + n).toNat else none
def atI {α : Type} (xs : List α) (i : Int) : Option α := (ixN xs.length i).bind fun j => xs[j]?
def onlyFro (v : PV) : Option PV := if fro v then some v else none
def ix : PV → PV → Option PV
  | .lst _ xs, .int i => (atI xs i).bind onlyFro
  | .tup xs, .int i => (atI xs i).bind onlyFro
  | .str z, .int i => (atI z.cps.toList i).map fun c => .str ⟨#[c]⟩
  | _, _ => none
def sIx (n d : Nat) : Option Int → Nat
  | none => d
  | some v => if v < 0 then (v + (n : Int)).toNat else min v.toNat n
def cut {α : Type} (xs : List α) (lo hi : Option Int) : List α := (xs.drop (sIx xs.length 0 lo)).take (sIx xs.length xs.length hi - sIx xs.length 0 lo)
def sl (v : PV) (lo hi : Option Int) : Option PV := match v with
  | .lst _ xs => if fros xs then some (.lst true (cut xs lo hi)) else none
  | .tup xs => if fros xs then some (.tup (cut xs lo hi)) else none
  | .str z => some (.str ⟨(cut z.cps.toList lo hi).toArray⟩)
  | _ => none
/-- a bound -/
def goB (b : Option EF) (ρ : Env) : Res (Option Int) := match b with
  | none => .ok none ρ
  | some f => (f ρ).bind fun v ρ1 => match v with
    | .int i => .ok (some i) ρ1
    | _ => .bad
def eSl (a : Opd) (lo hi : Option EF) : EF := fun ρ => (a.go ρ).bind fun t ρ1 => (goB lo ρ1).bind fun i ρ2 => (goB hi ρ2).bind fun j ρ3 => .of ((a.get t ρ3).bind fun v => sl v i j) ρ3
def rv : PV → Option PV
  | .lst _ xs => if fros xs then some (.lst true xs.reverse) else none
  | _ => none

/-! ### built-ins -/
def fLen : PV → Option PV
  | .str x => some (.int x.length)
  | .lst _ xs => some (.int xs.length)
  | .tup xs => some (.int xs.length)
  | .dct _ ks _ => some (.int ks.length)
  | _ => none
def fAbs : PV → Option PV
  | .int i => some (.int (if i < 0 then -i else i))
  | _ => none
def fInt : PV → Option PV
  | .int i => some (.int i)
  | .bl b => some (.int (b2i b))
  | _ => none
def fMax2 : PV → PV → Option PV
  | .int i, .int j => some (.int (if j > i then j else i))
  | _, _ => none
def fMin2 : PV → PV → Option PV
  | .int i, .int j => some (.int (if j < i then j else i))
  | _, _ => none
def fList : PV → Option PV
  | .lst _ xs => if fros xs then some (.lst true xs) else none
  | .tup xs => if fros xs then some (.lst true xs) else none
  | _ => none
def fTuple : PV → Option PV
  | .lst _ xs => if fros xs then some (.tup xs) else none
  | .tup xs => if fros xs then some (.tup xs) else none
  | _ => none
/-- truths only -/
def bls : List PV → Option (List Bool)
  | [] => some []
  | .bl b :: xs => (bls xs).map (b :: ·)
  | _ :: _ => none
def allI : List PV → Option (List Int)
  | [] => some []
  | .int i :: xs => (allI xs).map (i :: ·)
  | _ :: _ => none
def allS : List PV → Option (List Str)
  | [] => some []
  | .str i :: xs => (allS xs).map (i :: ·)
  | _ :: _ => none
def fAll : PV → Option PV
  | .lst _ xs => (bls xs).map fun bs => .bl (bs.all id)
  | _ => none
def fAny : PV → Option PV
  | .lst _ xs => (bls xs).map fun bs => .bl (bs.any id)
  | _ => none
def maxL : List Int → Option Int
  | [] => none
  | x :: xs => some (xs.foldl max x)
def fMax : PV → Option PV
  | .lst _ xs => (allI xs).bind fun is => (maxL is).map .int
  | _ => none
/-- ascending, each once -/
def insU (x : Int) : List Int → List Int
  | [] => [x]
  | y :: ys => if x < y then x :: y :: ys else if x = y then y :: ys else y :: insU x ys
def sortU (xs : List Int) : List Int := xs.foldr insU []
/-- sorted(set(xs)), allI -/
def fSortSet : PV → Option PV
  | .lst _ xs => (allI xs).bind fun is => if is.length < 64 then some (.lst true ((sortU is).map .int)) else none
  | _ => none
def fJoin : PV → PV → Option PV
  | .str a, .lst _ xs => (allS xs).bind fun ys => if (ys.map (·.length)).sum + ys.length * a.length ≤ big then some (.str (Str.join a ys)) else none
  | .str a, .tup xs => (allS xs).bind fun ys => if (ys.map (·.length)).sum + ys.length * a.length ≤ big then some (.str (Str.join a ys)) else none
  | _, _ => none
/-- built-in classes -/
inductive Ty where
  | int | bool | str | list | tuple | dict
  deriving DecidableEq
def isA : Ty → PV → Option Bool
  | _, .con _ => none
  | _, .exc .. => none
  | _, .ins .. => none
  | .int, .int _ => some true
  | .int, .bl _ => some true
  | .bool, .bl _ => some true
  | .str, .str _ => some true
  | .list, .lst .. => some true
  | .tuple, .tup _ => some true
  | .dict, .dct .. => some true
  | _, _ => some false
def tPV (k : PV → Option Bool) (o : Opd) : TF := op1 o k
def tPV2 (k : PV → PV → Option Bool) (a b : Opd) : TF := op2 a b k
def eP1 (k : PV → Option PV) (o : Opd) : EF := op1 o k
def eP2 (k : PV → PV → Option PV) (a b : Opd) : EF := op2 a b k
/-- a < b < c: b asked once -/
def tCh (k l : PV → PV → Option Bool) (a b d : Opd) : TF := fun ρ =>
  (a.go ρ).bind fun t ρ1 => (b.go ρ1).bind fun u ρ2 =>
    (Res.of ((a.get t ρ2).bind fun v => (b.get u ρ2).bind fun w => k v w) ρ2).bind fun r ρ3 =>
      if r = true then (d.go ρ3).bind fun x ρ4 => .of ((b.get u ρ4).bind fun w => (d.get x ρ4).bind fun z => l w z) ρ4 else .ok false ρ3
end Tr
set_option Elab.async false
set_option linter.all false
set_option maxRecDepth 100000
set_option maxHeartbeats 4000000
/-! Tr.B: tuples that are known to have no dict: how they are made. -/
namespace Tr
open PySem PySem.Spec PyProof.Rows L2 HT
abbrev tupO (its : Array Value) : Obj := { cls := .type "tuple", data := .seq its }
def TB (o : Obj) : Prop := o.cls = .type "tuple" ∧ o.dict = none
/-- the tuple at a, without a dict -/
def SqB (K : PySem.W.Frag) (H : Hp) (a : Addr) (xs : List V) : Prop :=
  (∃ o, H a = some (.frz o (.tup xs)) ∧ TB o) ∨ ∃ (o : Obj) (its : Array Value) (n : Nat), K.lookup a = some o ∧ TB o ∧ o.data = .seq its n ∧ its.size ≤ sizeLine ∧ Vals xs its.toList
section
variable {K : PySem.W.Frag} {H : Hp} {a : Addr} {xs : List V}
theorem SqB.sq (h : SqB K H a xs) : SqT K H a xs := by
  rcases h with ⟨o, h, _⟩ | ⟨o, its, n, h1, h2, h3⟩
  · exact .inl (.inr ⟨o, h⟩)
  · exact .inr ⟨o, its, n, h1, h2.1, h3⟩
theorem tB (its : Array Value) : TB (tupO its) := ⟨rfl, rfl⟩
theorem SqB.of {o : Obj} (h : H a = some (.frz o (.tup xs))) (b : TB o) : SqB K H a xs := .inl ⟨o, h, b⟩
theorem SqB.bare {X : Cx} {pins : List (Addr × Obj)} {σ : L2.St} {s : Shared} (I : L2.Inv X pins σ H s) (h : SqB X.K H a xs) : ∃ o, s.heap.get? a = some o ∧ TB o := by
  rcases h with ⟨o, h, b⟩ | ⟨o, its, n, h1, h2, h3⟩
  · exact ⟨o, (I.hok a _ h).1, b⟩
  · exact ⟨o, I.kIn a o h1, h2⟩
end
section
variable {X : Cx}
/-- a tuple, a list of written items -/
def tTupB (t : TA) : TE := fun σ H Q => t σ H fun xs H1 => xs.length ≤ sizeLine ∧ ∀ p o, H1 p = none → TB o → Q (.ref p) (upd H1 p (.frz o (.tup xs)))
theorem pe_tupB {es : List Expr} {t : TA} {pos : Pos} {x1} (h : PA X es t) : PE X (.Tuple es x1 pos) (tTupB t) := by
  refine ⟨fun pins s σ H Q I hq => ?_⟩
  refine wpAny_Tuple_spliced (thn (h.run pos pins s σ H _ I hq) fun us s1 ⟨xs, H1, I1, r, z, q⟩ => ⟨by rw [← r.length]; exact z, ?_⟩)
  have hf : H1 s1.heap.objs.size = none := I1.hok.fresh (Nat.le_refl _)
  refine ⟨.ref s1.heap.objs.size, upd H1 s1.heap.objs.size (.frz (tupO us.toArray) (.tup xs)), I1.laid (t' := s1.toks) (fun b u e => Heap.get?_push_of_some _ e) (Nat.le_refl _) ?_, rfl, q _ _ hf (tB _)⟩
  exact ⟨Heap.get?_push_size _ rfl, z, us, r, ⟨_, Heap.get?_push_size _ rfl, rfl, _, rfl⟩⟩
/-- t[lo:hi] -/
def rSlB (K : PySem.W.Frag) : V → Option Int → Option Int → Hp → VK → Prop := fun x lo hi H Q => ∃ a xs, x = .ref a ∧ SqT K H a xs ∧
  (HT.sIx xs.length 0 lo = 0 ∧ HT.sIx xs.length xs.length hi = xs.length → Q (.ref a) H) ∧ (¬ (HT.sIx xs.length 0 lo = 0 ∧ HT.sIx xs.length xs.length hi = xs.length) → ∀ p o, H p = none → TB o → Q (.ref p) (upd H p (.frz o (.tup (cutV xs lo hi)))))
theorem sl_tupB : SlR X (rSlB X.K) := by
  intro pins s σ H x v vl vu lo hi sl Q I rx hs pl pu h
  obtain ⟨a, xs, rfl, hx, q1, q2⟩ := h
  cases rx
  obtain ⟨its, r, ht, hz⟩ := I.tuple hx
  have hlen : its.toArray.size = xs.length := by rw [List.size_toArray]; exact r.length.symm
  refine ⟨"tuple", _, PyProof.Rows.slot_tuple_getitem.lookup, ht.typeIs, ?_⟩
  by_cases hw : HT.sIx xs.length 0 lo = 0 ∧ HT.sIx xs.length xs.length hi = xs.length
  · exact getItem_tuple_whole ht hs pl pu (by rw [hlen]; exact hw) ⟨.ref a, H, I, rfl, q1 hw⟩
  · refine HT.getItem_tuple_cut ht hs pl pu (by rw [hlen]; exact hw) ?_ (by rw [hlen]; exact hz)
    rw [hlen]
    refine ⟨.ref s.heap.objs.size, _, I.laid (t' := s.toks) (o := .frz (tupO ((its.drop (HT.sIx xs.length 0 lo)).take (HT.sIx xs.length xs.length hi - HT.sIx xs.length 0 lo)).toArray) (.tup (cutV xs lo hi))) (fun b ob q => Heap.get?_push_of_some _ q) (Nat.le_refl _) ?_, rfl, q2 hw _ _ (I.hok.fresh (Nat.le_refl _)) (tB _)⟩
    exact ⟨Heap.get?_push_size _ rfl, Nat.le_trans (cutV_length xs lo hi) hz, _, (r.drop (HT.sIx xs.length 0 lo)).take (HT.sIx xs.length xs.length hi - HT.sIx xs.length 0 lo), IsTup.new _ _⟩
/-- t + u -/
def rCatB (K : PySem.W.Frag) : R2 := fun x y H Q => ∃ a b xs ys, x = .ref a ∧ y = .ref b ∧ SqT K H a xs ∧ SqT K H b ys ∧ xs.length + ys.length ≤ sizeLine ∧
  (xs = [] → Q (.ref b) H) ∧ (xs ≠ [] → ys = [] → Q (.ref a) H) ∧ (xs ≠ [] → ys ≠ [] → ∀ p o, H p = none → TB o → Q (.ref p) (upd H p (.frz o (.tup (xs ++ ys)))))
theorem op_catB : OpR X (binaryOp .Add) (rCatB X.K) := by
  intro pins s σ H x y v u Q I rx ry h
  obtain ⟨a, b, xs, ys, rfl, rfl, ha, hb, hz, q0, q1, q2⟩ := h
  cases rx
  cases ry
  obtain ⟨its, r1, p1, _⟩ := I.tuple ha
  obtain ⟨its2, r2, p2, _⟩ := I.tuple hb
  by_cases hx : xs = []
  · subst hx
    cases r1
    exact cat_tup0 p1 p2 ⟨.ref b, H, I, rfl, q0 rfl⟩
  · refine HT.cat_tup p1 p2 (fun z => hx (r1.nil_iff.mp z)) (fun z => ⟨.ref a, H, I, rfl, q1 hx (r2.nil_iff.mp z)⟩) (fun z => ?_) (by rw [← r1.length, ← r2.length]; exact hz)
    refine ⟨.ref s.heap.objs.size, _, I.laid (t' := s.toks) (o := .frz (tupO (its ++ its2).toArray) (.tup (xs ++ ys))) (fun b ob q => Heap.get?_push_of_some _ q) (Nat.le_refl _) ?_, rfl, q2 hx (fun w => z (r2.nil_iff.mpr w)) _ _ (I.hok.fresh (Nat.le_refl _)) (tB _)⟩
    exact ⟨Heap.get?_push_size _ rfl, by rw [List.length_append]; exact hz, _, r1.append r2, IsTup.new _ _⟩
/-- tuple(xs) -/
theorem call_tupleB : CallR X (.type "tuple") (fun xs H Q => ∃ p ys, xs = [.ref p] ∧ ((SqL X.K H p ys ∧ ∀ l o, H l = none → TB o → Q (.ref l) (upd H l (.frz o (.tup ys)))) ∨ (SqT X.K H p ys ∧ Q (.ref p) H))) := by
  intro pins s σ H xs us Q I r h
  obtain ⟨p, ys, rfl, h⟩ := h
  obtain ⟨u, rfl, rx⟩ := vals1 r
  cases rx
  rcases h with ⟨hq, q⟩ | ⟨hq, q⟩
  · obtain ⟨its, r', pl, hz⟩ := I.list hq
    have hlen := r'.length
    refine call_tuple_list pl.isList (fun h' kp => ?_) (by simp only [List.size_toArray] <;> omega)
    have I1 : L2.Inv X pins σ H { s with heap := h' } := I.kept (t' := s.toks) kp
    refine ⟨.ref h'.objs.size, _, I1.laid (t' := s.toks) (o := .frz (tupO its.toArray) (.tup ys)) (fun b o e => Heap.get?_push_of_some _ e) (Nat.le_refl _) ?_, rfl, q _ _ (I1.hok.fresh (Nat.le_refl _)) (tB _)⟩
    exact ⟨Heap.get?_push_size _ rfl, hz, its, r', IsTup.new _ _⟩
  · obtain ⟨its, r', pl, hz⟩ := I.tuple hq
    exact call_tuple_same pl ⟨.ref p, H, I, rfl, q⟩
end
end Tr
set_option Elab.async false
set_option linter.all false
set_option maxRecDepth 100000
/-! Tr.Rel: how trees stand in the abstract heap of HandS; frozen addresses F, owned addresses A. -/
namespace Tr
open PySem PySem.Spec PyProof.Rows L2

/-! ### sets of addresses -/
abbrev AS := Addr → Prop
abbrev Emp : AS := fun _ => False
abbrev Uni (a b : AS) : AS := fun p => a p ∨ b p
def Sub (a b : AS) : Prop := ∀ p, a p → b p
def Dis (a b : AS) : Prop := ∀ p, a p → b p → False
theorem Sub.refl (a : AS) : Sub a a := fun _ h => h
theorem Sub.trans {a b c : AS} (h : Sub a b) (k : Sub b c) : Sub a c := fun p x => k p (h p x)
theorem Sub.emp {a : AS} : Sub Emp a := fun _ h => h.elim
theorem Sub.l {a b : AS} : Sub a (Uni a b) := fun _ h => .inl h
theorem Sub.r {a b : AS} : Sub b (Uni a b) := fun _ h => .inr h
theorem Sub.uni {a b c : AS} (h : Sub a c) (k : Sub b c) : Sub (Uni a b) c := fun p x => x.elim (h p) (k p)
theorem Dis.sym {a b : AS} (h : Dis a b) : Dis b a := fun p x y => h p y x
theorem Dis.mono {a b a' b' : AS} (h : Dis a b) (k : Sub a' a) (l : Sub b' b) : Dis a' b' := fun p x y => h p (k p x) (l p y)
theorem Dis.empl {a : AS} : Dis Emp a := fun _ h => h.elim
theorem Dis.empr {a : AS} : Dis a Emp := fun _ _ h => h.elim
theorem Dis.uni {a b c : AS} (h : Dis a c) (k : Dis b c) : Dis (Uni a b) c := fun p x y => x.elim (fun z => h p z y) (fun z => k p z y)

/-- what may be owned -/
def Mu : HO → Prop
  | .lst _ => True
  | .dK _ => True
  | .ins _ _ _ => True
  | .ext _ => True
  | _ => False

structure Good (H : Hp) (F A : AS) : Prop where
  own : ∀ p, A p → ¬ F p ∧ ∃ o, H p = some o ∧ Mu o
  fro : ∀ p, F p → ∃ o, H p = some o
theorem Good.sub {H : Hp} {F A B : AS} (g : Good H F A) (h : Sub B A) : Good H F B := ⟨fun p x => g.own p (h p x), g.fro⟩
theorem Good.uni {H : Hp} {F A B : AS} (g : Good H F A) (h : Good H F B) : Good H F (Uni A B) := ⟨fun p x => x.elim (g.own p) (h.own p), g.fro⟩

/-- from H, F, A to H', F', A' nothing else was written -/
structure Stp (H : Hp) (F A : AS) (H' : Hp) (F' A' : AS) : Prop where
  keep : ∀ p o, H p = some o → ¬ A p → H' p = some o
  live : ∀ p, H' p = none → H p = none
  mono : ∀ p, F p → F' p
  newF : ∀ p, F' p → F p ∨ H p = none ∨ A p
  newA : ∀ p, A' p → H p = none ∨ A p
theorem Stp.refl {H : Hp} {F A : AS} : Stp H F A H F A := ⟨fun _ _ h _ => h, fun _ h => h, fun _ h => h, fun _ h => .inl h, fun _ h => .inr h⟩
theorem Stp.drop {H H' : Hp} {F A F' A' B : AS} (s : Stp H F A H' F' A') (h : Sub B A') : Stp H F A H' F' B := ⟨s.keep, s.live, s.mono, s.newF, fun p x => s.newA p (h p x)⟩
theorem Stp.more {H H' : Hp} {F A F' A' B : AS} (s : Stp H F A H' F' A') (h : Sub A B) : Stp H F B H' F' A' :=
  ⟨fun p o e n => s.keep p o e fun x => n (h p x), s.live, s.mono, fun p x => (s.newF p x).imp_right (·.imp_right (h p)), fun p x => (s.newA p x).imp_right (h p)⟩
theorem Stp.trans {H H1 H2 : Hp} {F A F1 A1 F2 A2 : AS} (s : Stp H F A H1 F1 A1) (t : Stp H1 F1 A1 H2 F2 A2) : Stp H F A H2 F2 A2 where
  keep := fun p o e n => t.keep p o (s.keep p o e n) fun x => (s.newA p x).elim (fun z => by rw [e] at z; cases z) n
  live := fun p e => s.live p (t.live p e)
  mono := fun p x => t.mono p (s.mono p x)
  newF := fun p x => by
    rcases t.newF p x with x | x | x
    · exact s.newF p x
    · exact .inr (.inl (s.live p x))
    · exact .inr (s.newA p x)
  newA := fun p x => (t.newA p x).elim (fun z => .inl (s.live p z)) (s.newA p)
/-- the same beside what others own -/
theorem Stp.frame {H H' : Hp} {F A F' A' B : AS} (s : Stp H F A H' F' A') : Stp H F (Uni B A) H' F' (Uni B A') :=
  ⟨fun p o e n => s.keep p o e fun x => n (.inr x), s.live, s.mono, fun p x => (s.newF p x).imp_right (·.imp_right .inr), fun p x => x.elim (fun z => .inr (.inl z)) fun z => (s.newA p z).imp_right .inr⟩
theorem Good.kept {H H' : Hp} {F A F' A' B : AS} (g : Good H F B) (s : Stp H F A H' F' A') (g' : Good H' F' A') (d : Dis B A) : Good H' F' B where
  own := fun p x => by
    obtain ⟨n, o, e, m⟩ := g.own p x
    refine ⟨fun f => ?_, o, s.keep p o e fun a => d p x a, m⟩
    rcases s.newF p f with f | f | f
    · exact n f
    · rw [f] at e; cases e
    · exact d p x f
  fro := g'.fro
theorem Stp.apart {H H' : Hp} {F A F' A' B : AS} (g : Good H F B) (s : Stp H F A H' F' A') (d : Dis B A) : Dis B A' := fun p x y => by
  obtain ⟨_, o, e, _⟩ := g.own p x
  rcases s.newA p y with z | z
  · rw [z] at e; cases e
  · exact d p x z

/-! ### the names of the text: its classes by number, their fields in the order of __init__, its constants -/
structure RC where
  K : PySem.W.Frag
  cA : Nat → Addr
  cF : Nat → List Str
  con : Nat → V

/-- an exception that stands at p: of the class at C, its dict d -/
def exv (p C : Addr) (d : Option Addr) : HO := .ext fun h => ∃ o vs, h.get? p = some o ∧ o.cls = .ref C ∧ o.dict = d ∧ o.data = .fields vs

section
variable (c : RC) (H : Hp) (F : AS)
/-- a frozen list at p -/
def FzL (p : Addr) (vs : List V) : Prop := Rd H p (.lst vs) ∧ F p
mutual
def R : PV → V → AS → Prop
  | .non, v, _ => v = .non
  | .bl b, v, _ => v = .bl b
  | .int i, v, _ => v = .int i
  | .str x, v, _ => v = .str x ∧ sOk x = true
  | .con k, v, _ => v = c.con k
  | .exc k xs, v, _ => ∃ p d vs, v = .ref p ∧ (H p = some (exv p (c.cA k) d) ∧ F p) ∧ ((xs = [] ∧ d = none) ∨ ∃ dd, d = some dd ∧ xs.length ≤ (c.cF k).length ∧ H dd = some (.xd ((c.cF k).zip vs))) ∧ Rs xs vs Emp
  | .tup xs, v, a => ∃ p vs, v = .ref p ∧ (SqB c.K H p vs ∧ xs.length ≤ sizeLine) ∧ Rs xs vs a
  | .lst true xs, v, a => ∃ p vs a', v = .ref p ∧ xs.length ≤ sizeLine ∧ H p = some (.lst vs) ∧ a p ∧ ¬ a' p ∧ Sub a' a ∧ Rs xs vs a'
  | .lst false xs, v, _ => ∃ p vs, v = .ref p ∧ (FzL H F p vs ∧ xs.length ≤ sizeLine) ∧ Rs xs vs Emp
  | .dct true ks xs, v, a => ∃ p vs a', v = .ref p ∧ (ks.length = xs.length ∧ xs.length ≤ sizeLine) ∧ H p = some (.dK (ks.zip vs)) ∧ a p ∧ ¬ a' p ∧ Sub a' a ∧ Rs xs vs a'
  | .dct false ks xs, v, _ => ∃ p vs, v = .ref p ∧ (ks.length = xs.length ∧ xs.length ≤ sizeLine) ∧ (Rd H p (.dK (ks.zip vs)) ∧ F p) ∧ Rs xs vs Emp
  | .ins true k xs, v, a => ∃ p dx vs a', v = .ref p ∧ xs.length ≤ (c.cF k).length ∧ H p = some (.ins (c.cA k) dx ((c.cF k).zip vs)) ∧ a p ∧ ¬ a' p ∧ Sub a' a ∧ Rs xs vs a'
  | .ins false k xs, v, _ => ∃ p dx vs, v = .ref p ∧ xs.length ≤ (c.cF k).length ∧ (H p = some (.ins (c.cA k) dx ((c.cF k).zip vs)) ∧ F p) ∧ Rs xs vs Emp
def Rs : List PV → List V → AS → Prop
  | [], vs, _ => vs = []
  | x :: xs, vs, a => ∃ v vs' b d, vs = v :: vs' ∧ Sub b a ∧ Sub d a ∧ Dis b d ∧ R x v b ∧ Rs xs vs' d
end
end

section
variable {c : RC} {H H' : Hp} {F F' A A' : AS}
mutual
theorem R.mono : ∀ {x : PV} {v : V} {a b : AS}, R c H F x v a → Sub a b → R c H F x v b
  | .non, _, _, _, h, _ => h
  | .bl _, _, _, _, h, _ => h
  | .int _, _, _, _, h, _ => h
  | .str _, _, _, _, h, _ => h
  | .con _, _, _, _, h, _ => h
  | .exc _ _, _, _, _, h, _ => h
  | .tup xs, _, _, _, ⟨p, vs, e, q, r⟩, s => ⟨p, vs, e, q, Rs.mono r s⟩
  | .lst true xs, _, _, _, ⟨p, vs, a', e, l, q, m, n, t, r⟩, s => ⟨p, vs, a', e, l, q, s p m, n, t.trans s, r⟩
  | .lst false xs, _, _, _, h, _ => h
  | .dct true ks xs, _, _, _, ⟨p, vs, a', e, l, q, m, n, t, r⟩, s => ⟨p, vs, a', e, l, q, s p m, n, t.trans s, r⟩
  | .dct false ks xs, _, _, _, h, _ => h
  | .ins true k xs, _, _, _, ⟨p, dx, vs, a', e, l, q, m, n, t, r⟩, s => ⟨p, dx, vs, a', e, l, q, s p m, n, t.trans s, r⟩
  | .ins false k xs, _, _, _, h, _ => h
theorem Rs.mono : ∀ {xs : List PV} {vs : List V} {a b : AS}, Rs c H F xs vs a → Sub a b → Rs c H F xs vs b
  | [], _, _, _, h, _ => h
  | x :: xs, _, _, _, ⟨v, vs', b, d, e, sb, sd, k, r, rs⟩, s => ⟨v, vs', b, d, e, sb.trans s, sd.trans s, k, r, rs⟩
end
theorem not_mu {p : Addr} {o : HO} (g : Good H F A) (e : H p = some o) (n : ¬ Mu o) : ¬ A p := fun x => by
  obtain ⟨_, o', e', m⟩ := g.own p x
  rw [e] at e'; cases e'
  exact n m
theorem SqT.step {p : Addr} {vs : List V} (g : Good H F A) (s : Stp H F A H' F' A') (h : SqT c.K H p vs) : SqT c.K H' p vs := by
  have nm : ∀ o, H p = some o → ¬ Mu o → ¬ A p := fun o e n x => by
    obtain ⟨_, o', e', m⟩ := g.own p x
    rw [e] at e'; cases e'
    exact n m
  rcases h with (h | ⟨o, h⟩) | h
  · exact .inl (.inl (s.keep _ _ h (nm _ h id)))
  · exact .inl (.inr ⟨o, s.keep _ _ h (nm _ h id)⟩)
  · exact .inr h
theorem SqB.step {p : Addr} {vs : List V} (g : Good H F A) (s : Stp H F A H' F' A') (h : SqB c.K H p vs) : SqB c.K H' p vs := by
  rcases h with ⟨o, h, b⟩ | h
  · exact .inl ⟨o, s.keep _ _ h (not_mu g h id), b⟩
  · exact .inr h
theorem FzL.step {p : Addr} {vs : List V} (g : Good H F A) (s : Stp H F A H' F' A') (h : FzL H F p vs) : FzL H' F' p vs := by
  rcases h with ⟨h | ⟨o, h⟩, f⟩
  · exact ⟨.inl (s.keep _ _ h fun x => (g.own p x).1 f), s.mono p f⟩
  · exact ⟨.inr ⟨o, s.keep _ _ h fun x => (g.own p x).1 f⟩, s.mono p f⟩
mutual
/-- what others own is as it was behind a step -/
theorem R.step (g : Good H F A) (s : Stp H F A H' F' A') : ∀ {x : PV} {v : V} {a : AS}, R c H F x v a → Dis a A → R c H' F' x v a
  | .non, _, _, h, _ => h
  | .bl _, _, _, h, _ => h
  | .int _, _, _, h, _ => h
  | .str _, _, _, h, _ => h
  | .con _, _, _, h, _ => h
  | .exc k xs, _, _, ⟨p, dd, vs, e, ⟨q, f⟩, z, r⟩, d => ⟨p, dd, vs, e, ⟨s.keep _ _ q fun x => (g.own p x).1 f, s.mono p f⟩, z.imp_right (fun ⟨y, e1, l, h1⟩ => ⟨y, e1, l, s.keep _ _ h1 (not_mu g h1 id)⟩), Rs.step g s r Dis.empl⟩
  | .tup xs, _, _, ⟨p, vs, e, ⟨q, l⟩, r⟩, d => ⟨p, vs, e, ⟨SqB.step g s q, l⟩, Rs.step g s r d⟩
  | .lst true xs, _, _, ⟨p, vs, a', e, l, q, m, n, t, r⟩, d => ⟨p, vs, a', e, l, s.keep _ _ q (fun x => d p m x), m, n, t, Rs.step g s r (d.mono t (Sub.refl _))⟩
  | .lst false xs, _, _, ⟨p, vs, e, ⟨q, l⟩, r⟩, d => ⟨p, vs, e, ⟨q.step g s, l⟩, Rs.step g s r Dis.empl⟩
  | .dct true ks xs, _, _, ⟨p, vs, a', e, l, q, m, n, t, r⟩, d => ⟨p, vs, a', e, l, s.keep _ _ q (fun x => d p m x), m, n, t, Rs.step g s r (d.mono t (Sub.refl _))⟩
  | .dct false ks xs, _, _, ⟨p, vs, e, l, ⟨q, f⟩, r⟩, d => ⟨p, vs, e, l, ⟨q.elim (fun q => .inl (s.keep _ _ q fun x => (g.own p x).1 f)) (fun ⟨o, q⟩ => .inr ⟨o, s.keep _ _ q fun x => (g.own p x).1 f⟩), s.mono p f⟩, Rs.step g s r Dis.empl⟩
  | .ins true k xs, _, _, ⟨p, dx, vs, a', e, l, q, m, n, t, r⟩, d => ⟨p, dx, vs, a', e, l, s.keep _ _ q (fun x => d p m x), m, n, t, Rs.step g s r (d.mono t (Sub.refl _))⟩
  | .ins false k xs, _, _, ⟨p, dx, vs, e, l, ⟨q, f⟩, r⟩, d => ⟨p, dx, vs, e, l, ⟨s.keep _ _ q fun x => (g.own p x).1 f, s.mono p f⟩, Rs.step g s r Dis.empl⟩
theorem Rs.step (g : Good H F A) (s : Stp H F A H' F' A') : ∀ {xs : List PV} {vs : List V} {a : AS}, Rs c H F xs vs a → Dis a A → Rs c H' F' xs vs a
  | [], _, _, h, _ => h
  | x :: xs, _, _, ⟨v, vs', b, d, e, sb, sd, k, r, rs⟩, dd => ⟨v, vs', b, d, e, sb, sd, k, R.step g s r (dd.mono sb (Sub.refl _)), Rs.step g s rs (dd.mono sd (Sub.refl _))⟩
end
mutual
/-- a frozen tree leans on no owned node -/
theorem R.emp : ∀ {x : PV} {v : V} {a : AS}, R c H F x v a → fro x = true → R c H F x v Emp
  | .non, _, _, h, _ => h
  | .bl _, _, _, h, _ => h
  | .int _, _, _, h, _ => h
  | .str _, _, _, h, _ => h
  | .con _, _, _, h, _ => h
  | .exc _ _, _, _, h, _ => h
  | .tup xs, _, _, ⟨p, vs, e, q, r⟩, f => ⟨p, vs, e, q, Rs.emp r (by rw [fro] at f; exact f)⟩
  | .lst true xs, _, _, h, f => by rw [fro] at f; simp at f
  | .lst false xs, _, _, h, _ => h
  | .dct true ks xs, _, _, h, f => by rw [fro] at f; simp at f
  | .dct false ks xs, _, _, h, _ => h
  | .ins true k xs, _, _, h, f => by rw [fro] at f; simp at f
  | .ins false k xs, _, _, h, _ => h
theorem Rs.emp : ∀ {xs : List PV} {vs : List V} {a : AS}, Rs c H F xs vs a → fros xs = true → Rs c H F xs vs Emp
  | [], _, _, h, _ => h
  | x :: xs, _, _, ⟨v, vs', b, d, e, sb, sd, k, r, rs⟩, f => by
    rw [fros] at f; simp only [Bool.and_eq_true] at f
    exact ⟨v, vs', Emp, Emp, e, Sub.emp, Sub.emp, Dis.empl, R.emp r f.1, Rs.emp rs f.2⟩
end
/-- F grows by what a tree owns: the tree is frozen -/
theorem R.up {F' : AS} (hF : Sub F F') : ∀ {x : PV} {v : V} {a : AS}, R c H F x v a → R c H F' x v a := by
  have key : (∀ (x : PV) (v : V) (a : AS), R c H F x v a → R c H F' x v a) := by
    intro x
    refine PV.rec (motive_1 := fun x => ∀ v a, R c H F x v a → R c H F' x v a) (motive_2 := fun xs => ∀ vs a, Rs c H F xs vs a → Rs c H F' xs vs a)
      (fun _ _ h => h) (fun _ _ _ h => h) (fun _ _ _ h => h) (fun _ _ _ h => h) (fun xs ih v a h => ?_) (fun w xs ih v a h => ?_) (fun w ks xs ih v a h => ?_) (fun w k xs ih v a h => ?_) (fun _ _ _ h => h) (fun k xs ih v a h => ?_) (fun _ _ h => h) (fun x xs i1 i2 vs a h => ?_) x
    · obtain ⟨p, vs, e, q, r⟩ := h; exact ⟨p, vs, e, q, ih _ _ r⟩
    · cases w with
      | true => obtain ⟨p, vs, a', e, l, q, m, n, t, r⟩ := h; exact ⟨p, vs, a', e, l, q, m, n, t, ih _ _ r⟩
      | false => obtain ⟨p, vs, e, ⟨q, l⟩, r⟩ := h; exact ⟨p, vs, e, ⟨⟨q.1, hF p q.2⟩, l⟩, ih _ _ r⟩
    · cases w with
      | true => obtain ⟨p, vs, a', e, l, q, m, n, t, r⟩ := h; exact ⟨p, vs, a', e, l, q, m, n, t, ih _ _ r⟩
      | false => obtain ⟨p, vs, e, l, q, r⟩ := h; exact ⟨p, vs, e, l, ⟨q.1, hF p q.2⟩, ih _ _ r⟩
    · cases w with
      | true => obtain ⟨p, dx, vs, a', e, l, q, m, n, t, r⟩ := h; exact ⟨p, dx, vs, a', e, l, q, m, n, t, ih _ _ r⟩
      | false => obtain ⟨p, dx, vs, e, l, q, r⟩ := h; exact ⟨p, dx, vs, e, l, ⟨q.1, hF p q.2⟩, ih _ _ r⟩
    · obtain ⟨p, d, vs, e, q, z, r⟩ := h; exact ⟨p, d, vs, e, ⟨q.1, hF p q.2⟩, z, ih _ _ r⟩
    · obtain ⟨v, vs', b, d, e, sb, sd, k, r, rs⟩ := h; exact ⟨v, vs', b, d, e, sb, sd, k, i1 _ _ r, i2 _ _ rs⟩
  intro x v a h
  exact key x v a h
theorem Rs.up {F' : AS} (hF : Sub F F') : ∀ {xs : List PV} {vs : List V} {a : AS}, Rs c H F xs vs a → Rs c H F' xs vs a
  | [], _, _, h => h
  | x :: xs, _, _, ⟨v, vs', b, d, e, sb, sd, k, r, rs⟩ => ⟨v, vs', b, d, e, sb, sd, k, R.up hF r, Rs.up hF rs⟩
mutual
theorem R.frz : ∀ {x : PV} {v : V} {a : AS}, R c H F x v a → (∀ p, a p → F p) → R c H F (Tr.frz x) v Emp
  | .non, _, _, h, _ => h
  | .bl _, _, _, h, _ => h
  | .int _, _, _, h, _ => h
  | .str _, _, _, h, _ => h
  | .con _, _, _, h, _ => h
  | .exc k xs, _, _, ⟨p, d, vs, e, q, z, r⟩, s => by
    rw [Tr.frz]
    refine ⟨p, d, vs, e, q, ?_, Rs.frz r fun _ x => x.elim⟩
    rcases z with ⟨z1, z2⟩ | ⟨y, e1, l, h1⟩
    · exact .inl ⟨by rw [z1]; rfl, z2⟩
    · exact .inr ⟨y, e1, by rw [frzs_eq, List.length_map]; exact l, h1⟩
  | .tup xs, _, _, ⟨p, vs, e, ⟨q, l⟩, r⟩, s => by rw [Tr.frz]; exact ⟨p, vs, e, ⟨q, by rw [frzs_eq, List.length_map]; exact l⟩, Rs.frz r s⟩
  | .lst true xs, _, _, ⟨p, vs, a', e, l, q, m, n, t, r⟩, s => by rw [Tr.frz]; exact ⟨p, vs, e, ⟨⟨.inl q, s p m⟩, by rw [frzs_eq, List.length_map]; exact l⟩, Rs.frz r fun q x => s q (t q x)⟩
  | .lst false xs, _, _, ⟨p, vs, e, ⟨q, l⟩, r⟩, s => by rw [Tr.frz]; exact ⟨p, vs, e, ⟨q, by rw [frzs_eq, List.length_map]; exact l⟩, Rs.frz r fun _ x => x.elim⟩
  | .dct true ks xs, _, _, ⟨p, vs, a', e, l, q, m, n, t, r⟩, s => by rw [Tr.frz]; exact ⟨p, vs, e, (by rw [frzs_eq, List.length_map]; exact l), ⟨.inl q, s p m⟩, Rs.frz r fun q x => s q (t q x)⟩
  | .dct false ks xs, _, _, ⟨p, vs, e, l, q, r⟩, s => by rw [Tr.frz]; exact ⟨p, vs, e, (by rw [frzs_eq, List.length_map]; exact l), q, Rs.frz r fun _ x => x.elim⟩
  | .ins true k xs, _, _, ⟨p, dx, vs, a', e, l, q, m, n, t, r⟩, s => by rw [Tr.frz]; exact ⟨p, dx, vs, e, (by rw [frzs_eq, List.length_map]; exact l), ⟨q, s p m⟩, Rs.frz r fun q x => s q (t q x)⟩
  | .ins false k xs, _, _, ⟨p, dx, vs, e, l, q, r⟩, s => by rw [Tr.frz]; exact ⟨p, dx, vs, e, (by rw [frzs_eq, List.length_map]; exact l), q, Rs.frz r fun _ x => x.elim⟩
theorem Rs.frz : ∀ {xs : List PV} {vs : List V} {a : AS}, Rs c H F xs vs a → (∀ p, a p → F p) → Rs c H F (Tr.frzs xs) vs Emp
  | [], _, _, h, _ => h
  | x :: xs, _, _, ⟨v, vs', b, d, e, sb, sd, k, r, rs⟩, s => by
    rw [Tr.frzs]
    exact ⟨v, vs', Emp, Emp, e, Sub.emp, Sub.emp, Dis.empl, R.frz r fun p x => s p (sb p x), Rs.frz rs fun p x => s p (sd p x)⟩
end
/-- freezing is a step -/
theorem Stp.freeze {a : AS} (sub : Sub a A) : Stp H F A H (Uni F a) (fun p => A p ∧ ¬ a p) :=
  ⟨fun _ _ h _ => h, fun _ h => h, fun _ h => .inl h, fun p h => h.imp_right fun z => .inr (sub p z), fun p h => .inr h.1⟩
theorem Good.freeze {a : AS} (g : Good H F A) (sub : Sub a A) : Good H (Uni F a) (fun p => A p ∧ ¬ a p) :=
  ⟨fun p h => ⟨fun z => z.elim (g.own p h.1).1 h.2, (g.own p h.1).2⟩, fun p h => h.elim (g.fro p) fun z => let ⟨_, o, e, _⟩ := g.own p (sub p z); ⟨o, e⟩⟩

/-! ### lists of trees -/
theorem Rs.len : ∀ {xs : List PV} {vs : List V} {a : AS}, Rs c H F xs vs a → vs.length = xs.length
  | [], _, _, h => by rw [show _ = [] from h]; rfl
  | x :: xs, _, _, ⟨v, vs', b, d, e, sb, sd, k, r, rs⟩ => by rw [e, List.length_cons, List.length_cons, rs.len]
theorem Rs.get : ∀ {xs : List PV} {vs : List V} {a : AS} {i : Nat} {x : PV}, Rs c H F xs vs a → xs[i]? = some x → ∃ v b, vs[i]? = some v ∧ Sub b a ∧ R c H F x v b
  | [], _, _, _, _, _, e => by simp at e
  | y :: ys, _, _, 0, x, ⟨v, vs', b, d, e, sb, sd, k, r, rs⟩, h => by
    simp at h; subst h
    exact ⟨v, b, by rw [e]; rfl, sb, r⟩
  | y :: ys, _, _, i + 1, x, ⟨v, vs', b, d, e, sb, sd, k, r, rs⟩, h => by
    obtain ⟨v', b', h1, h2, h3⟩ := rs.get (i := i) (x := x) (by simpa using h)
    exact ⟨v', b', by rw [e]; simpa using h1, h2.trans sd, h3⟩
theorem Rs.append : ∀ {xs ys : List PV} {vs ws : List V} {a b : AS}, Rs c H F xs vs a → Rs c H F ys ws b → Dis a b → Rs c H F (xs ++ ys) (vs ++ ws) (Uni a b)
  | [], ys, vs, ws, a, b, h, k, d => by rw [show vs = [] from h]; exact Rs.mono k Sub.r
  | x :: xs, ys, _, ws, a, b, ⟨v, vs', b1, d1, e, sb, sd, kk, r, rs⟩, k, d => by
    subst e
    refine ⟨v, vs' ++ ws, b1, Uni d1 b, rfl, sb.trans Sub.l, Sub.uni (sd.trans Sub.l) Sub.r, ?_, r, Rs.append rs k (d.mono sd (Sub.refl _))⟩
    exact fun p x y => y.elim (kk p x) fun z => d p (sb p x) z
theorem Rs.one {x : PV} {v : V} {a : AS} (r : R c H F x v a) : Rs c H F [x] [v] a := ⟨v, [], a, Emp, rfl, Sub.refl _, Sub.emp, Dis.empr, r, rfl⟩
theorem Rs.of_emp : ∀ {xs : List PV} {vs : List V}, vs.length = xs.length → (∀ (i : Nat) (x : PV) (v : V), xs[i]? = some x → vs[i]? = some v → R c H F x v Emp) → Rs c H F xs vs Emp
  | [], vs, l, _ => by cases vs with | nil => rfl | cons _ _ => cases l
  | x :: xs, vs, l, h => by
    cases vs with
    | nil => cases l
    | cons v vs => exact ⟨v, vs, Emp, Emp, rfl, Sub.emp, Sub.emp, Dis.empl, h 0 x v rfl rfl, Rs.of_emp (by simpa using l) fun i y w e1 e2 => h (i + 1) y w (by simpa using e1) (by simpa using e2)⟩
/-- the i-th taken out, and another one put there -/
theorem Rs.focus : ∀ {xs : List PV} {vs : List V} {a : AS} {i : Nat} {x : PV}, Rs c H F xs vs a → xs[i]? = some x →
    ∃ v b d, vs[i]? = some v ∧ Sub b a ∧ Sub d a ∧ Dis b d ∧ R c H F x v b ∧ (∀ (H' : Hp) (F' : AS) (y : PV) (w : V) (b' d' : AS), (∀ (x : PV) (v : V) (a : AS), Sub a d → R c H F x v a → R c H' F' x v a) → R c H' F' y w b' → Dis b' d → Rs c H' F' (xs.set i y) (vs.set i w) (Uni b' d))
  | [], _, _, _, _, _, e => by simp at e
  | y :: ys, _, _, 0, x, ⟨v, vs', b, d, e, sb, sd, k, r, rs⟩, h => by
    simp at h; subst h; subst e
    refine ⟨v, b, d, rfl, sb, sd, k, r, fun H' F' y w b' _ up ry dy => ⟨w, vs', b', d, rfl, Sub.l, Sub.r, dy, ry, ?_⟩⟩
    have go : ∀ (zs : List PV) (us : List V) (e : AS), Sub e d → Rs c H F zs us e → Rs c H' F' zs us e := by
      intro zs
      induction zs with
      | nil => intro us e _ h; exact h
      | cons z zs ih =>
        intro us e se ⟨v, vs', b, d, e', sb, sd, k, r, rs⟩
        exact ⟨v, vs', b, d, e', sb, sd, k, up _ _ _ (sb.trans se) r, ih _ _ (sd.trans se) rs⟩
    exact go _ _ _ (Sub.refl _) rs
  | y :: ys, _, _, i + 1, x, ⟨v, vs', b, d, e, sb, sd, k, r, rs⟩, h => by
    subst e
    obtain ⟨v', b', d', h1, h2, h3, h4, h5, h6⟩ := rs.focus (i := i) (x := x) (by simpa using h)
    refine ⟨v', b', Uni b d', by simpa using h1, h2.trans sd, Sub.uni sb (h3.trans sd), ?_, h5, fun H' F' y w b2 dd up ry dy => ?_⟩
    · exact fun p x z => z.elim (fun z => k p z (h2 p x)) (h4 p x)
    · have rest := h6 H' F' y w b2 dd (fun x v a sa r => up x v a (sa.trans Sub.r) r) ry (dy.mono (Sub.refl _) Sub.r)
      refine ⟨v, vs'.set i w, b, Uni b2 d', rfl, Sub.l.trans Sub.r, ?_, ?_, up _ _ _ Sub.l r, rest⟩
      · exact Sub.uni Sub.l (Sub.r.trans Sub.r)
      · exact fun p x z => z.elim (fun z => dy p z (.inl x)) fun z => k p x (h3 p z)
end
end Tr
set_option Elab.async false
set_option linter.all false
set_option maxRecDepth 100000
/-! Tr.J: the slots, the judgements, operands. -/
namespace Tr
open PySem PySem.Spec L2

section
variable (c : RC) (H : Hp) (F : AS)
def RE : Env → St → AS → Prop
  | [], σ, _ => σ = []
  | none :: ρ, σ, a => ∃ s σ', σ = s :: σ' ∧ RE ρ σ' a
  | some x :: ρ, σ, a => ∃ v σ' b d, σ = some v :: σ' ∧ Sub b a ∧ Sub d a ∧ Dis b d ∧ R c H F x v b ∧ RE ρ σ' d
end
section
variable {c : RC} {H H' : Hp} {F F' A A' : AS}
theorem RE.len : ∀ {ρ : Env} {σ : St} {a : AS}, RE c H F ρ σ a → σ.length = ρ.length
  | [], _, _, h => by rw [show _ = [] from h]; rfl
  | none :: ρ, _, _, ⟨s, σ', e, h⟩ => by rw [e, List.length_cons, List.length_cons, h.len]
  | some x :: ρ, _, _, ⟨v, σ', b, d, e, _, _, _, _, h⟩ => by rw [e, List.length_cons, List.length_cons, h.len]
theorem RE.mono : ∀ {ρ : Env} {σ : St} {a b : AS}, RE c H F ρ σ a → Sub a b → RE c H F ρ σ b
  | [], _, _, _, h, _ => h
  | none :: ρ, _, _, _, ⟨s, σ', e, h⟩, k => ⟨s, σ', e, h.mono k⟩
  | some x :: ρ, _, _, _, ⟨v, σ', b, d, e, sb, sd, dd, r, h⟩, k => ⟨v, σ', b, d, e, sb.trans k, sd.trans k, dd, r, h⟩
theorem RE.step (g : Good H F A) (s : Stp H F A H' F' A') : ∀ {ρ : Env} {σ : St} {a : AS}, RE c H F ρ σ a → Dis a A → RE c H' F' ρ σ a
  | [], _, _, h, _ => h
  | none :: ρ, _, _, ⟨u, σ', e, h⟩, d => ⟨u, σ', e, RE.step g s h d⟩
  | some x :: ρ, _, _, ⟨v, σ', b, dd, e, sb, sd, k, r, h⟩, d => ⟨v, σ', b, dd, e, sb, sd, k, R.step g s r (d.mono sb (Sub.refl _)), RE.step g s h (d.mono sd (Sub.refl _))⟩
theorem RE.up {F' : AS} (hF : Sub F F') : ∀ {ρ : Env} {σ : St} {a : AS}, RE c H F ρ σ a → RE c H F' ρ σ a
  | [], _, _, h => h
  | none :: ρ, _, _, ⟨u, σ', e, h⟩ => ⟨u, σ', e, RE.up hF h⟩
  | some x :: ρ, _, _, ⟨v, σ', b, dd, e, sb, sd, k, r, h⟩ => ⟨v, σ', b, dd, e, sb, sd, k, R.up hF r, RE.up hF h⟩
theorem slot_cons (o : Option PV) (ρ : Env) : slot (o :: ρ) 0 = o := by cases o <;> rfl
theorem slot_succ (o : Option PV) (ρ : Env) (i : Nat) : slot (o :: ρ) (i + 1) = slot ρ i := rfl
theorem slot_lt {ρ : Env} {i : Nat} {x : PV} (h : slot ρ i = some x) : i < ρ.length := by
  unfold slot at h
  rcases Nat.lt_or_ge i ρ.length with l | l
  · exact l
  · rw [List.getElem?_eq_none l] at h; cases h
/-- a slot is looked at -/
theorem RE.look : ∀ {ρ : Env} {σ : St} {a : AS} {i : Nat} {x : PV}, RE c H F ρ σ a → slot ρ i = some x → ∃ v b, σ[i]? = some (some v) ∧ Sub b a ∧ R c H F x v b
  | [], _, _, _, _, _, e => by simp [slot] at e
  | none :: ρ, _, _, 0, x, _, e => by rw [slot_cons] at e; cases e
  | some y :: ρ, _, _, 0, x, ⟨v, σ', b, d, es, sb, sd, dd, r, h⟩, e => by
    rw [slot_cons] at e; cases e
    exact ⟨v, b, by rw [es]; rfl, sb, r⟩
  | none :: ρ, _, _, i + 1, x, ⟨s, σ', es, h⟩, e => by
    rw [slot_succ] at e
    obtain ⟨v, b, h1, h2, h3⟩ := RE.look (i := i) h e
    exact ⟨v, b, by rw [es]; simpa using h1, h2, h3⟩
  | some y :: ρ, _, _, i + 1, x, ⟨v, σ', b, d, es, sb, sd, dd, r, h⟩, e => by
    rw [slot_succ] at e
    obtain ⟨v', b', h1, h2, h3⟩ := RE.look (i := i) h e
    exact ⟨v', b', by rw [es]; simpa using h1, h2.trans sd, h3⟩
/-- a slot is forgotten -/
theorem RE.wipe : ∀ {ρ : Env} {σ : St} {a : AS} (i : Nat), RE c H F ρ σ a → RE c H F (ρ.set i none) σ a
  | [], _, _, _, h => h
  | none :: ρ, _, _, 0, h => h
  | some y :: ρ, _, _, 0, ⟨v, σ', b, d, es, sb, sd, dd, r, h⟩ => ⟨some v, σ', es, h.mono sd⟩
  | none :: ρ, _, _, i + 1, ⟨s, σ', es, h⟩ => ⟨s, σ', es, RE.wipe i h⟩
  | some y :: ρ, _, _, i + 1, ⟨v, σ', b, d, es, sb, sd, dd, r, h⟩ => ⟨v, σ', b, d, es, sb, sd, dd, r, RE.wipe i h⟩
/-- a slot is taken out -/
theorem RE.take : ∀ {ρ : Env} {σ : St} {a : AS} {i : Nat} {x : PV}, RE c H F ρ σ a → slot ρ i = some x →
    ∃ v b d, σ[i]? = some (some v) ∧ Sub b a ∧ Sub d a ∧ Dis b d ∧ R c H F x v b ∧ RE c H F (ρ.set i none) σ d
  | [], _, _, _, _, _, e => by simp [slot] at e
  | none :: ρ, _, _, 0, x, _, e => by rw [slot_cons] at e; cases e
  | some y :: ρ, _, _, 0, x, ⟨v, σ', b, d, es, sb, sd, dd, r, h⟩, e => by
    rw [slot_cons] at e; cases e
    exact ⟨v, b, d, by rw [es]; rfl, sb, sd, dd, r, some v, σ', es, h⟩
  | none :: ρ, _, _, i + 1, x, ⟨s, σ', es, h⟩, e => by
    rw [slot_succ] at e
    obtain ⟨v, b, d, h1, h2, h3, h4, h5, h6⟩ := RE.take (i := i) h e
    exact ⟨v, b, d, by rw [es]; simpa using h1, h2, h3, h4, h5, s, σ', es, h6⟩
  | some y :: ρ, _, _, i + 1, x, ⟨v, σ', b, d, es, sb, sd, dd, r, h⟩, e => by
    rw [slot_succ] at e
    obtain ⟨v', b', d', h1, h2, h3, h4, h5, h6⟩ := RE.take (i := i) h e
    refine ⟨v', b', Uni b d', by rw [es]; simpa using h1, h2.trans sd, Sub.uni sb (h3.trans sd), ?_, h5, v, σ', b, d', es, Sub.l, Sub.r, dd.mono (Sub.refl _) h3, r, h6⟩
    exact fun p x z => z.elim (fun z => dd p z (h2 p x)) (h4 p x)
/-- a slot is filled: with what stands in σ there -/
theorem RE.put : ∀ {ρ : Env} {σ : St} {a b : AS} {i : Nat} {x : PV} {v : V}, RE c H F ρ σ a → σ[i]? = some (some v) → R c H F x v b → Dis b a → RE c H F (ρ.set i (some x)) σ (Uni b a)
  | [], _, _, _, _, _, _, h, e, _, _ => by rw [show _ = [] from h] at e; simp at e
  | none :: ρ, _, _, _, 0, x, v, ⟨s, σ', es, h⟩, e, r, d => by
    rw [es] at e; simp at e
    exact ⟨v, σ', _, _, by rw [es, e], Sub.l, Sub.r, d, r, h⟩
  | some y :: ρ, _, _, _, 0, x, v, ⟨w, σ', b, dd, es, sb, sd, k, rr, h⟩, e, r, d => by
    rw [es] at e; simp at e
    exact ⟨v, σ', _, _, by rw [es, e], Sub.l, Sub.r, d, r, h.mono sd⟩
  | none :: ρ, _, _, _, i + 1, x, v, ⟨s, σ', es, h⟩, e, r, d => by
    rw [es] at e
    exact ⟨s, σ', es, RE.put (i := i) h (by simpa using e) r d⟩
  | some y :: ρ, _, _, _, i + 1, x, v, ⟨w, σ', b, dd, es, sb, sd, k, rr, h⟩, e, r, d => by
    rw [es] at e
    refine ⟨w, σ', b, _, es, sb.trans Sub.r, Sub.uni Sub.l (sd.trans Sub.r), ?_, rr, RE.put (i := i) h (by simpa using e) r (d.mono (Sub.refl _) sd)⟩
    exact fun p z q => q.elim (fun q => d p q (sb p z)) (k p z)
/-- a slot is stored to -/
theorem RE.store : ∀ {ρ : Env} {σ : St} {a b : AS} {i : Nat} {x : PV} {v : V}, RE c H F ρ σ a → i < ρ.length → R c H F x v b → Dis b a → RE c H F (ρ.set i (some x)) (σ.set i (some v)) (Uni b a)
  | [], _, _, _, _, _, _, h, e, _, _ => by simp at e
  | none :: ρ, _, _, _, 0, x, v, ⟨s, σ', es, h⟩, e, r, d => by subst es; exact ⟨v, σ', _, _, rfl, Sub.l, Sub.r, d, r, h⟩
  | some y :: ρ, _, _, _, 0, x, v, ⟨w, σ', b, dd, es, sb, sd, k, rr, h⟩, e, r, d => by subst es; exact ⟨v, σ', _, _, rfl, Sub.l, Sub.r, d, r, h.mono sd⟩
  | none :: ρ, _, _, _, i + 1, x, v, ⟨s, σ', es, h⟩, e, r, d => by
    subst es
    exact ⟨s, σ'.set i (some v), rfl, RE.store (i := i) h (by simpa using e) r d⟩
  | some y :: ρ, _, _, _, i + 1, x, v, ⟨w, σ', b, dd, es, sb, sd, k, rr, h⟩, e, r, d => by
    subst es
    refine ⟨w, σ'.set i (some v), b, _, rfl, sb.trans Sub.r, Sub.uni Sub.l (sd.trans Sub.r), ?_, rr, RE.store (i := i) h (by simpa using e) r (d.mono (Sub.refl _) sd)⟩
    exact fun p z q => q.elim (fun q => d p q (sb p z)) (k p z)
theorem RE.start : ∀ {xs : List PV} {vs : List V} {a : AS} (n : Nat), Rs c H F xs vs a → RE c H F (xs.map some ++ List.replicate n none) (vs.map some ++ List.replicate n none) a
  | [], vs, a, n, h => by
    rw [show vs = [] from h]
    show RE c H F (List.replicate n none) (List.replicate n none) a
    induction n with
    | zero => rfl
    | succ n ih => exact ⟨none, List.replicate n none, rfl, ih⟩
  | x :: xs, _, a, n, ⟨v, vs', b, d, e, sb, sd, k, r, rs⟩ => by
    subst e
    exact ⟨v, _, b, d, rfl, sb, sd, k, r, RE.start n rs⟩
end

/-- an exception as it flies: its class, its dict's fields, all frozen -/
def RX (c : RC) (H : Hp) (F : AS) (e : PExc) (cls : Value) (d : Option Addr) : Prop :=
  cls = .ref (c.cA e.cls) ∧ if e.vals = [] then d = none else ∃ dd vs, d = some dd ∧ e.vals.length ≤ (c.cF e.cls).length ∧ H dd = some (.xd ((c.cF e.cls).zip vs)) ∧ Rs c H F e.vals vs Emp

/-! ### behind an evaluation -/
section
variable {α β ν μ : Type} (c : RC) (W : WX)
/-- r: what the plain function yields; its value and the machine's are related by rel, in a footprint -/
def Post (rel : Hp → AS → α → ν → AS → Prop) (σ : St) (H : Hp) (F A : AS) (r : Res α) (Q : ν → Hp → Prop) : Prop := match r with
  | .ok v ρ' => ∀ x H' F' a b, Stp H F A H' F' (Uni a b) → Good H' F' (Uni a b) → Dis a b → rel H' F' v x a → RE c H' F' ρ' σ b → Q x H'
  | .er e ρ' => ∀ cls d H' F' b, Stp H F A H' F' b → Good H' F' b → RX c H' F' e cls d → RE c H' F' ρ' σ b → W cls d σ H'
  | .bad => False
def tG (rel : Hp → AS → α → ν → AS → Prop) (f : Env → Res α) : St → Hp → (ν → Hp → Prop) → Prop := fun σ H Q =>
  ∃ ρ F A, Good H F A ∧ RE c H F ρ σ A ∧ Post c W rel σ H F A (f ρ) Q
def relE : Hp → AS → PV → V → AS → Prop := fun H F v x a => R c H F v x a
def relB : Hp → AS → Bool → Bool → AS → Prop := fun _ _ v x _ => x = v
abbrev tEx (f : EF) : TE := tG c W (relE c) f
abbrev tTs (t : TF) : TT := tG c W relB t
end
section
variable {α β ν μ : Type} {c : RC} {W : WX} {rel : Hp → AS → α → ν → AS → Prop} {rel' : Hp → AS → β → μ → AS → Prop} {σ : St} {H H1 : Hp} {F A F1 A1 : AS}
theorem Post.base {r : Res α} {Q : ν → Hp → Prop} (h : Post c W rel σ H F A r Q) (s : Stp H F A H1 F1 A1) : Post c W rel σ H1 F1 A1 r Q := by
  cases r with
  | ok v ρ' => exact fun x H' F' a b t g d r e => h x H' F' a b (s.trans t) g d r e
  | er x ρ' => exact fun cls d H' F' b t g r e => h cls d H' F' b (s.trans t) g r e
  | bad => exact h
theorem Post.sub {r : Res α} {Q : ν → Hp → Prop} (h : Post c W rel σ H F A r Q) (s : Sub A1 A) : Post c W rel σ H F A1 r Q := by
  cases r with
  | ok v ρ' => exact fun x H' F' a b t g d r e => h x H' F' a b (t.more s) g d r e
  | er x ρ' => exact fun cls d H' F' b t g r e => h cls d H' F' b (t.more s) g r e
  | bad => exact h
theorem Post.imp {r : Res α} {Q Q' : ν → Hp → Prop} (h : Post c W rel σ H F A r Q) (k : ∀ x H, Q x H → Q' x H) : Post c W rel σ H F A r Q' := by
  cases r with
  | ok v ρ' => exact fun x H' F' a b t g d r e => k _ _ (h x H' F' a b t g d r e)
  | er x ρ' => exact h
  | bad => exact h
/-- one thing after another, beside temporaries that own t -/
theorem tG.next {f : Env → Res α} {g : α → Env → Res β} {Q : μ → Hp → Prop} {K : ν → Hp → Prop} {ρ : Env} {t b : AS}
    (gd : Good H F A) (st : Sub t A) (sb : Sub b A) (d : Dis t b) (e : RE c H F ρ σ b) (p : Post c W rel' σ H F A ((f ρ).bind g) Q)
    (k : ∀ v x ρ1 H1 F1 a1 b1, Good H1 F1 (Uni t (Uni a1 b1)) → Dis t (Uni a1 b1) → Dis a1 b1 → rel H1 F1 v x a1 → RE c H1 F1 ρ1 σ b1 → Stp H F b H1 F1 (Uni a1 b1) →
      Post c W rel' σ H1 F1 (Uni t (Uni a1 b1)) (g v ρ1) Q → K x H1) : tG c W rel f σ H K := by
  refine ⟨ρ, F, b, gd.sub sb, e, ?_⟩
  have all : ∀ {H1 : Hp} {F1 A1 : AS}, Stp H F b H1 F1 A1 → Stp H F A H1 F1 (Uni t A1) := fun s => (s.frame (B := t)).more (Sub.uni st sb)
  cases q : f ρ with
  | ok v ρ1 =>
    rw [q] at p
    intro x H1 F1 a1 b1 s g1 d1 r e1
    have gt : Good H1 F1 t := (gd.sub st).kept s g1 d
    exact k v x ρ1 H1 F1 a1 b1 (gt.uni g1) (s.apart (gd.sub st) d) d1 r e1 s (Post.base p (all s))
  | er x ρ1 =>
    rw [q] at p
    intro cls dd H1 F1 b1 s g1 r e1
    exact p cls dd H1 F1 b1 ((all s).drop Sub.r) g1 r e1
  | bad => rw [q] at p; exact p.elim
/-- with no temporaries -/
theorem tG.bind {f : Env → Res α} {g : α → Env → Res β} {Q : μ → Hp → Prop} {K : ν → Hp → Prop} (h : tG c W rel' (fun ρ => (f ρ).bind g) σ H Q)
    (k : ∀ v x ρ1 H1 F1 a b, Good H1 F1 (Uni a b) → Dis a b → rel H1 F1 v x a → RE c H1 F1 ρ1 σ b → Post c W rel' σ H1 F1 (Uni a b) (g v ρ1) Q → K x H1) : tG c W rel f σ H K := by
  obtain ⟨ρ, F, A, gd, e, p⟩ := h
  refine tG.next (t := Emp) gd Sub.emp (Sub.refl _) Dis.empl e p fun v x ρ1 H1 F1 a1 b1 g1 _ d r e1 s p1 => ?_
  exact k v x ρ1 H1 F1 a1 b1 (g1.sub Sub.r) d r e1 (p1.sub Sub.r)
theorem tG.imp {f : Env → Res α} {Q Q' : ν → Hp → Prop} (h : tG c W rel f σ H Q) (k : ∀ x H, Q x H → Q' x H) : tG c W rel f σ H Q' := by
  obtain ⟨ρ, F, A, gd, e, p⟩ := h
  exact ⟨ρ, F, A, gd, e, p.imp k⟩
/-- nothing more happens: a value of no footprint -/
theorem Post.now {v : α} {x : ν} {ρ : Env} {Q : ν → Hp → Prop} {b : AS} (p : Post c W rel σ H F A (.ok v ρ) Q) (g : Good H F A) (sb : Sub b A) (r : rel H F v x Emp) (e : RE c H F ρ σ b) : Q x H :=
  p x H F Emp b (Stp.refl.drop (Sub.uni Sub.emp sb)) (g.sub (Sub.uni Sub.emp sb)) Dis.empl r e
/-- a value that owns a -/
theorem Post.own {v : α} {x : ν} {ρ : Env} {Q : ν → Hp → Prop} {a b : AS} (p : Post c W rel σ H F A (.ok v ρ) Q) (g : Good H F A) (sa : Sub a A) (sb : Sub b A) (d : Dis a b) (r : rel H F v x a) (e : RE c H F ρ σ b) : Q x H :=
  p x H F a b (Stp.refl.drop (Sub.uni sa sb)) (g.sub (Sub.uni sa sb)) d r e
end

/-! ### the judgements -/
def SE (X : Cx) (c : RC) (W : WX) (e : Expr) (f : EF) : Prop := PE X e (tEx c W f)
def ST (X : Cx) (c : RC) (W : WX) (e : Expr) (t : TF) : Prop := PT X e (tTs c W t)
/-- a reading that asks more -/
theorem PE.weak {X : Cx} {e : Expr} {t t' : TE} (h : PE X e t) (k : ∀ σ H Q, t' σ H Q → t σ H Q) : PE X e t' := ⟨fun pins s σ H Q I q => h.run pins s σ H Q I (k σ H Q q)⟩
theorem PT.weak {X : Cx} {e : Expr} {t t' : TT} (h : PT X e t) (k : ∀ σ H Q, t' σ H Q → t σ H Q) : PT X e t' := ⟨fun pins s σ H Q I q => h.run pins s σ H Q I (k σ H Q q)⟩
theorem PW.weak {X : Cx} {e : Expr} {t t' : TT} (h : PW X e t) (k : ∀ σ H Q, t' σ H Q → t σ H Q) : PW X e t' := ⟨fun wh pins s σ H Q I q => h.run wh pins s σ H Q I (k σ H Q q)⟩
theorem PS.weak {X : Cx} {e : Stmt} {t t' : TS} (h : PS X e t) (k : ∀ D σ H, t' D σ H → t D σ H) : PS X e t' := ⟨fun pins s σ H D I q => h.run pins s σ H D I (k D σ H q)⟩
theorem PSs.weak {X : Cx} {e : List Stmt} {t t' : TS} (h : PSs X e t) (k : ∀ D σ H, t' D σ H → t D σ H) : PSs X e t' := ⟨fun pins s σ H D I q => h.run pins s σ H D I (k D σ H q)⟩
theorem PE.or {X : Cx} {e : Expr} {t t' : TE} (h : PE X e t) (h' : PE X e t') : PE X e (fun σ H Q => t σ H Q ∨ t' σ H Q) := ⟨fun pins s σ H Q I q => q.elim (h.run pins s σ H Q I) (h'.run pins s σ H Q I)⟩

/-! ### operands -/
def tO (c : RC) (W : WX) (o : Opd) : TE := match o with
  | .nm i => tVar i
  | .ev f => tEx c W f
def SO (X : Cx) (c : RC) (W : WX) (e : Expr) (o : Opd) : Prop := PE X e (tO c W o)
theorem so_ev {X : Cx} {c : RC} {W : WX} {e : Expr} {f : EF} (h : SE X c W e f) : SO X c W e (.ev f) := h
theorem so_nm {X : Cx} {c : RC} {W : WX} {e : Expr} {i : Nat} (h : PE X e (tVar i)) : SO X c W e (.nm i) := h
/-- an operand that is evaluated: its value x; what is kept of it on the side -/
def Tmp (c : RC) (σ : St) (H : Hp) (F : AS) (o : Opd) (t : Option PV) (x : V) (a : AS) : Prop := match o with
  | .nm i => σ[i]? = some (some x)
  | .ev _ => ∃ v, t = some v ∧ R c H F v x a
section
variable {β μ : Type} {c : RC} {W : WX} {rel' : Hp → AS → β → μ → AS → Prop} {σ : St} {H H' : Hp} {F A F' A' : AS}
theorem Tmp.step {o : Opd} {t : Option PV} {x : V} {a : AS} (g : Good H F A) (s : Stp H F A H' F' A') (h : Tmp c σ H F o t x a) (d : Dis a A) : Tmp c σ H' F' o t x a := by
  cases o with
  | nm i => exact h
  | ev f => obtain ⟨v, e, r⟩ := h; exact ⟨v, e, R.step g s r d⟩
/-- what the operand is at the end -/
theorem Tmp.get {o : Opd} {t : Option PV} {x : V} {a b : AS} {ρ : Env} {v : PV} (h : Tmp c σ H F o t x a) (e : RE c H F ρ σ b) (q : o.get t ρ = some v) : ∃ d, Sub d (Uni a b) ∧ R c H F v x d := by
  cases o with
  | nm i =>
    obtain ⟨w, d, h1, h2, h3⟩ := e.look (i := i) q
    have q1 : σ[i]? = some (some x) := h
    rw [q1] at h1; cases h1
    exact ⟨d, h2.trans Sub.r, h3⟩
  | ev f =>
    obtain ⟨w, e, r⟩ := h
    have : t = some v := q
    rw [this] at e; cases e
    exact ⟨a, Sub.l, r⟩
theorem tO.next {o : Opd} {g : Option PV → Env → Res β} {Q : μ → Hp → Prop} {K : VK} {ρ : Env} {t b : AS}
    (gd : Good H F A) (st : Sub t A) (sb : Sub b A) (d : Dis t b) (e : RE c H F ρ σ b) (p : Post c W rel' σ H F A ((o.go ρ).bind g) Q)
    (k : ∀ u x ρ1 H1 F1 a1 b1, Good H1 F1 (Uni t (Uni a1 b1)) → Dis t (Uni a1 b1) → Dis a1 b1 → Tmp c σ H1 F1 o u x a1 → RE c H1 F1 ρ1 σ b1 → Stp H F b H1 F1 (Uni a1 b1) →
      Post c W rel' σ H1 F1 (Uni t (Uni a1 b1)) (g u ρ1) Q → K x H1) : tO c W o σ H K := by
  cases o with
  | nm i =>
    unfold Opd.go at p
    cases q : slot ρ i with
    | none => simp only [q] at p; exact p.elim
    | some v =>
      simp only [q] at p
      obtain ⟨x, b', h1, _, _⟩ := e.look q
      refine ⟨x, h1, k none x ρ H F Emp b ?_ ?_ Dis.empl h1 e ?_ ?_⟩
      · exact gd.sub (Sub.uni st (Sub.uni Sub.emp sb))
      · exact fun p x y => y.elim (fun z => z) (d p x)
      · exact Stp.refl.drop (Sub.uni Sub.emp (Sub.refl _))
      · exact Post.sub p (Sub.uni st (Sub.uni Sub.emp sb))
  | ev f =>
    refine tG.next (rel := relE c) (f := f) (g := fun v ρ1 => g (some v) ρ1) gd st sb d e (by
      unfold Opd.go at p
      cases q : f ρ with
      | ok v ρ1 => simp only [q] at p; exact p
      | er x ρ1 => simp only [q] at p; exact p
      | bad => simp only [q] at p; exact p) fun v x ρ1 H1 F1 a1 b1 g1 d1 d2 r e1 s p1 => ?_
    exact k (some v) x ρ1 H1 F1 a1 b1 g1 d1 d2 ⟨v, rfl, r⟩ e1 s p1
/-- one operand -/
theorem tO.one {o : Opd} {k : PV → Option β} {Q : μ → Hp → Prop} {K : VK} (h : tG c W rel' (op1 o k) σ H Q)
    (fin : ∀ v x y ρ1 H1 F1 A1 b, Good H1 F1 A1 → Sub b A1 → RE c H1 F1 ρ1 σ b → (∃ a, Sub a A1 ∧ R c H1 F1 v x a) → k v = some y → Post c W rel' σ H1 F1 A1 (.ok y ρ1) Q → K x H1) : tO c W o σ H K := by
  obtain ⟨ρ, F, A, gd, e, p⟩ := h
  refine tO.next (t := Emp) gd Sub.emp (Sub.refl _) Dis.empl e p fun u x ρ1 H1 F1 a1 b1 g1 _ d tm e1 s p1 => ?_
  cases q : o.get u ρ1 with
  | none => simp only [q] at p1; exact p1.elim
  | some v =>
    simp only [q] at p1
    cases q2 : k v with
    | none => simp only [Option.bind_some, q2] at p1; exact p1.elim
    | some y =>
      simp only [Option.bind_some, q2] at p1
      obtain ⟨dd, s1, r⟩ := tm.get e1 q
      exact fin v x y ρ1 H1 F1 _ b1 g1 (Sub.r.trans Sub.r) e1 ⟨dd, s1.trans (Sub.uni (Sub.l.trans Sub.r) (Sub.r.trans Sub.r)), r⟩ q2 p1
/-- two operands -/
theorem tO.two {o o' : Opd} {k : PV → PV → Option β} {Q : μ → Hp → Prop} {K : V → V → Hp → Prop} (h : tG c W rel' (op2 o o' k) σ H Q)
    (fin : ∀ v w x x' y ρ1 H1 F1 A1 b, Good H1 F1 A1 → Sub b A1 → RE c H1 F1 ρ1 σ b → (∃ a, Sub a A1 ∧ R c H1 F1 v x a) → (∃ a, Sub a A1 ∧ R c H1 F1 w x' a) → k v w = some y → Post c W rel' σ H1 F1 A1 (.ok y ρ1) Q → K x x' H1) :
    tO c W o σ H (fun x H1 => tO c W o' σ H1 (fun x' H2 => K x x' H2)) := by
  obtain ⟨ρ, F, A, gd, e, p⟩ := h
  refine tO.next (t := Emp) gd Sub.emp (Sub.refl _) Dis.empl e p fun u x ρ1 H1 F1 a1 b1 g1 _ d tm e1 s p1 => ?_
  refine tO.next (t := a1) (b := b1) g1 (Sub.l.trans Sub.r) (Sub.r.trans Sub.r) d e1 p1 fun u' x' ρ2 H2 F2 a2 b2 g2 d1 d2 tm' e2 s2 p2 => ?_
  have tm2 := tm.step (g1.sub (Sub.r.trans Sub.r)) s2 d
  cases q : o.get u ρ2 with
  | none => simp only [q] at p2; exact p2.elim
  | some v =>
    simp only [q, Option.bind_some] at p2
    cases q' : o'.get u' ρ2 with
    | none => simp only [q'] at p2; exact p2.elim
    | some w =>
      simp only [q', Option.bind_some] at p2
      cases q2 : k v w with
      | none => simp only [q2] at p2; exact p2.elim
      | some y =>
        simp only [q2] at p2
        obtain ⟨dd, s1, r⟩ := tm2.get e2 q
        obtain ⟨dd', s1', r'⟩ := tm'.get e2 q'
        exact fin v w x x' y ρ2 H2 F2 _ b2 g2 (Sub.r.trans Sub.r) e2 ⟨dd, s1.trans (Sub.uni Sub.l (Sub.r.trans Sub.r)), r⟩ ⟨dd', s1'.trans Sub.r, r'⟩ q2 p2
end
end Tr
set_option Elab.async false
set_option linter.all false
set_option maxRecDepth 100000
set_option maxHeartbeats 4000000
/-! Tr.E: the expressions. -/
namespace Tr
open PySem PySem.Spec L2

/-- what the rules lean on, of where one stands -/
structure Cok (X : Cx) (c : RC) (k : Nat) : Prop where
  K : X.K = c.K
  hr : Room k X.A
  calm : X.calm = true
  nd : X.N.Nodup
theorem Cok.mono {X : Cx} {c : RC} {j k : Nat} (h : Cok X c k) (l : j ≤ k) : Cok X c j := ⟨h.K, h.hr.mono l, h.calm, h.nd⟩
theorem Cok.blk {X : Cx} {c : RC} {k : Nat} (h : Cok X c k) (s : Shared) (H : Hp) (sc : Scope) (ce : PySem.Env) (fp : List Addr) : Cok (X.blk s H sc ce fp) c k := ⟨h.K, h.hr, h.calm, h.nd⟩

section
variable {c : RC} {W : WX} {σ : L2.St} {H : Hp} {F A b : AS}
/-- a value that is new or of no footprint comes of it -/
def Fin (c : RC) (H : Hp) (F : AS) (z : PV) (Q : VK) : Prop := ∀ x' H' a, Stp H F Emp H' F a → Good H' F a → R c H' F z x' a → Q x' H'
theorem Post.fin {z : PV} {ρ : Env} {Q : VK} (p : Post c W (relE c) σ H F A (.ok z ρ) Q) (g : Good H F A) (sb : Sub b A) (e : RE c H F ρ σ b) : Fin c H F z Q := by
  intro x' H' a s g' r
  have gb := g.sub sb
  have g2 : Good H' F b := gb.kept s g' Dis.empr
  refine p x' H' F a b ⟨fun q o e n => s.keep q o e id, s.live, s.mono, fun q h => .inl h, fun q h => h.elim (fun z => .inl ((s.newA q z).resolve_right id)) fun z => .inr (sb q z)⟩ (g'.uni g2) ?_ r (e.step (g.sub Sub.emp) s Dis.empr)
  intro q h1 h2
  obtain ⟨_, o, eo, _⟩ := gb.own q h2
  rcases s.newA q h1 with z | z
  · rw [z] at eo; cases eo
  · exact z
theorem Fin.now {z : PV} {x : V} {Q : VK} (h : Fin c H F z Q) (g : Good H F Emp) (r : R c H F z x Emp) : Q x H := h x H Emp Stp.refl g r
theorem Stp.new {p : Addr} {o : HO} (hp : H p = none) : Stp H F A (upd H p o) F (Uni A (fun q => q = p)) := by
  refine ⟨fun q u e n => ?_, fun q e => ?_, fun _ h => h, fun _ h => .inl h, fun q h => h.elim .inr fun z => .inl (by rw [z]; exact hp)⟩
  · rw [upd_ne (ne_of_none e hp)]; exact e
  · by_cases z : q = p
    · rw [z]; exact hp
    · rw [upd_ne z] at e; exact e
theorem Stp.newT {p : Addr} {o : HO} (hp : H p = none) : Stp H F A (upd H p o) F A := (Stp.new hp).drop Sub.l
theorem Good.newT {p : Addr} {o : HO} (g : Good H F A) (hp : H p = none) : Good (upd H p o) F A :=
  ⟨fun q h => let ⟨n, u, e, m⟩ := g.own q h; ⟨n, u, by rw [upd_ne (ne_of_none e hp)]; exact e, m⟩, fun q h => let ⟨u, e⟩ := g.fro q h; ⟨u, by rw [upd_ne (ne_of_none e hp)]; exact e⟩⟩
theorem Good.new {p : Addr} {o : HO} (g : Good H F A) (hp : H p = none) (m : Mu o) : Good (upd H p o) F (Uni A (fun q => q = p)) :=
  (g.newT hp).uni ⟨fun q h => by
    subst h
    exact ⟨fun f => (by obtain ⟨u, e⟩ := g.fro q f; rw [hp] at e; cases e), o, upd_same, m⟩, (g.newT hp).fro⟩
theorem Fin.lst {xs : List PV} {vs : List V} {Q : VK} (h : Fin c H F (.lst true xs) Q) (g : Good H F Emp) (r : Rs c H F xs vs Emp) (l : xs.length ≤ big) {p : Addr} (hp : H p = none) : Q (.ref p) (upd H p (.lst vs)) := by
  have g1 : Good (upd H p (.lst vs)) F (fun q => q = p) := (g.new hp (o := .lst vs) trivial).sub Sub.r
  refine h (.ref p) _ (fun q => q = p) ((Stp.new hp).drop Sub.r) g1 ?_
  exact ⟨p, vs, Emp, rfl, l, upd_same, rfl, id, Sub.emp, Rs.step g (Stp.newT (A := Emp) hp) r Dis.empl⟩
theorem Fin.tup {xs : List PV} {vs : List V} {Q : VK} (h : Fin c H F (.tup xs) Q) (g : Good H F Emp) (r : Rs c H F xs vs Emp) (l : xs.length ≤ big) {p : Addr} {o : Obj} (hp : H p = none) (hb : TB o) : Q (.ref p) (upd H p (.frz o (.tup vs))) := by
  refine h (.ref p) _ Emp (Stp.newT hp) (g.newT hp) ?_
  exact ⟨p, vs, rfl, ⟨SqB.of upd_same hb, l⟩, Rs.step g (Stp.newT (A := Emp) hp) r Dis.empl⟩
end

/-! ### constants, names -/
section
variable {X : Cx} {c : RC} {W : WX} {k : Nat} {pos : Pos}
theorem se_of {e : Expr} {v : V} {x : PV} (h : PE X e (tC v)) (r : ∀ H F, R c H F x v Emp) : SE X c W e (eC x) := by
  refine PE.weak h fun σ H Q q => ?_
  obtain ⟨ρ, F, A, g, e, p⟩ := q
  exact p.now g (Sub.refl _) (r H F) e
theorem se_int {i : Int} {j pos} : SE X c W (.Constant (.int i) j pos) (eC (.int i)) := se_of pe_int fun _ _ => rfl
theorem se_bl {b : Bool} {j pos} : SE X c W (.Constant (.bool b) j pos) (eC (.bl b)) := se_of pe_bl fun _ _ => rfl
theorem se_non {j pos} : SE X c W (.Constant .none j pos) (eC .non) := se_of pe_non fun _ _ => rfl
theorem se_str {x : Str} {j pos} (h : sOk x = true) : SE X c W (.Constant (.str x) j pos) (eC (.str x)) := se_of pe_str fun _ _ => ⟨rfl, h⟩
theorem so_pv {i : Nat} {x : Str} (h : PE X (.Name x pos) (tVar i)) : SO X c W (.Name x pos) (.nm i) := h
theorem se_nm {i : Nat} {x : Str} (h : PE X (.Name x pos) (tVar i)) : SE X c W (.Name x pos) (eNm i) := by
  refine PE.weak h fun σ H Q q => ?_
  obtain ⟨ρ, F, A, g, e, p⟩ := q
  unfold eNm at p
  cases q : slot ρ i with
  | none => simp only [q] at p; exact p.elim
  | some v =>
    simp only [q] at p
    obtain ⟨x, a, d, h1, h2, h3, h4, h5, h6⟩ := e.take q
    have r : R c H (Uni F a) (frz v) x Emp := R.frz (R.up Sub.l h5) fun _ z => .inr z
    have e2 : RE c H (Uni F a) ((ρ.set i none).set i (some (frz v))) σ (Uni Emp d) := RE.put (RE.up Sub.l h6) h1 r Dis.empl
    rw [List.set_set] at e2
    have sd : Sub (Uni Emp (Uni Emp d)) (fun p => A p ∧ ¬ a p) := fun q z => z.elim False.elim fun z => z.elim False.elim fun z => ⟨h3 q z, fun y => h4 q y z⟩
    exact ⟨x, h1, p x H _ Emp _ ((Stp.freeze h2).drop sd) ((g.freeze h2).sub sd) Dis.empl r e2⟩
theorem se_mv {i : Nat} {x : Str} (h : PE X (.Name x pos) (tVar i)) : SE X c W (.Name x pos) (eMv i) := by
  refine PE.weak h fun σ H Q q => ?_
  obtain ⟨ρ, F, A, g, e, p⟩ := q
  unfold eMv at p
  cases q : slot ρ i with
  | none => simp only [q] at p; exact p.elim
  | some v =>
    simp only [q] at p
    obtain ⟨x, a, d, h1, h2, h3, h4, h5, h6⟩ := e.take q
    exact ⟨x, h1, p.own g h2 h3 h4 h5 h6⟩
end

/-! ### argument lists, displays -/
section
variable {X : Cx} {c : RC} {W : WX} {k : Nat} {pos : Pos}
def relL (c : RC) : Hp → AS → List PV → List V → AS → Prop := fun H F v x a => Rs c H F v x a
def SA (X : Cx) (c : RC) (W : WX) (es : List Expr) (g : AF) : Prop := PA X es (tG c W (relL c) g)
theorem PA.weak {es : List Expr} {t t' : TA} (h : PA X es t) (k : ∀ σ H Q, t' σ H Q → t σ H Q) : PA X es t' := ⟨fun pos pins s σ H Q I q => h.run pos pins s σ H Q I (k σ H Q q)⟩
theorem sa_nil : SA X c W [] aNil := by
  refine PA.weak pa_nil fun σ H Q q => ?_
  obtain ⟨ρ, F, A, g, e, p⟩ := q
  exact p.now g (Sub.refl _) rfl e
theorem sa_cons {e : Expr} {es : List Expr} {f : EF} {g : AF} (h : SE X c W e f) (hs : SA X c W es g) (st : starEach (e :: es) X.env = (false, eval e X.env) :: starEach es X.env := by rfl) : SA X c W (e :: es) (aCons f g) := by
  refine PA.weak (pa_cons h hs st) fun σ H Q q => ?_
  refine tG.bind q fun v x ρ1 H1 F1 a b g1 d r e1 p1 => ?_
  refine tG.next (t := a) g1 Sub.l Sub.r d e1 p1 fun vs xs ρ2 H2 F2 a2 b2 g2 d2 d3 r2 e2 s2 p2 => ?_
  have r' : R c H2 F2 v x a := R.step (g1.sub Sub.r) s2 r d
  refine p2.own (a := Uni a a2) (b := b2) g2 (Sub.uni Sub.l (Sub.l.trans Sub.r)) (Sub.r.trans Sub.r) ?_ ⟨x, xs, a, a2, rfl, Sub.l, Sub.r, fun q y z => d2 q y (.inl z), r', r2⟩ e2
  exact Dis.uni (fun q y z => d2 q y (.inr z)) d3
theorem se_tup {es : List Expr} {x1 pos} {g : AF} (h : SA X c W es g) (hl : es.length ≤ big := by decide) (hn : ∀ ρ vs ρ', g ρ = .ok vs ρ' → vs.length = es.length) : SE X c W (.Tuple es x1 pos) (eTup g) := by
  refine PE.weak (pe_tupB h) fun σ H Q q => ?_
  obtain ⟨ρ, F, A, g0, e, p⟩ := q
  refine ⟨ρ, F, A, g0, e, ?_⟩
  unfold eTup at p
  cases q : g ρ with
  | bad => rw [q] at p; exact p.elim
  | er x ρ1 => rw [q] at p; exact p
  | ok vs ρ1 =>
    rw [q] at p
    intro xs H1 F1 a b s g1 d r e1
    have l : vs.length ≤ big := by rw [hn _ _ _ q]; exact hl
    refine ⟨by rw [Rs.len r]; exact l, fun pp o hp hb => ?_⟩
    have st := s.trans (Stp.newT (o := HO.frz o (HO.tup xs)) hp)
    exact p _ _ F1 a b st (g1.newT hp) d ⟨pp, xs, rfl, ⟨SqB.of upd_same hb, l⟩, Rs.step (g1.sub Sub.emp) (Stp.newT (A := Emp) hp) r Dis.empr⟩ (e1.step (g1.sub Sub.emp) (Stp.newT (A := Emp) hp) Dis.empr)
theorem se_lst {es : List Expr} {pos} {g : AF} (h : SA X c W es g) (hl : es.length ≤ big := by decide) (hn : ∀ ρ vs ρ', g ρ = .ok vs ρ' → vs.length = es.length) : SE X c W (.List es pos) (eLst g) := by
  refine PE.weak (pe_lst h) fun σ H Q q => ?_
  obtain ⟨ρ, F, A, g0, e, p⟩ := q
  refine ⟨ρ, F, A, g0, e, ?_⟩
  unfold eLst at p
  cases q : g ρ with
  | bad => rw [q] at p; exact p.elim
  | er x ρ1 => rw [q] at p; exact p
  | ok vs ρ1 =>
    rw [q] at p
    intro xs H1 F1 a b s g1 d r e1
    have l : vs.length ≤ big := by rw [hn _ _ _ q]; exact hl
    refine ⟨by rw [Rs.len r]; exact l, fun pp hp => ?_⟩
    have st := s.trans (Stp.new (A := Uni a b) (o := HO.lst xs) hp)
    have gn := g1.new hp (o := HO.lst xs) trivial
    have nf : ∀ q, Uni a b q → q ≠ pp := fun q z e2 => by
      obtain ⟨_, o, eo, _⟩ := g1.own q z
      rw [e2, hp] at eo; cases eo
    refine p _ _ F1 (Uni a (fun q => q = pp)) b (st.drop ?_) (gn.sub ?_) ?_ ?_ (e1.step (g1.sub Sub.emp) (Stp.newT (A := Emp) hp) Dis.empr)
    · exact Sub.uni (Sub.uni (Sub.l.trans Sub.l) Sub.r) (Sub.r.trans Sub.l)
    · exact Sub.uni (Sub.uni (Sub.l.trans Sub.l) Sub.r) (Sub.r.trans Sub.l)
    · exact Dis.uni d fun q y z => nf q (.inr z) y
    · exact ⟨pp, xs, a, rfl, l, upd_same, .inr rfl, fun z => nf pp (.inl z) rfl, Sub.l, Rs.step (g1.sub Sub.emp) (Stp.newT (A := Emp) hp) r Dis.empr⟩
theorem aNil_len : ∀ ρ vs ρ', aNil ρ = .ok vs ρ' → vs.length = 0 := by
  intro ρ vs ρ' h
  unfold aNil at h; cases h; rfl
theorem aCons_len {f : EF} {g : AF} {n : Nat} (h : ∀ ρ vs ρ', g ρ = .ok vs ρ' → vs.length = n) : ∀ ρ vs ρ', aCons f g ρ = .ok vs ρ' → vs.length = n + 1 := by
  intro ρ vs ρ' e
  unfold aCons at e
  cases q : f ρ with
  | bad => rw [q] at e; cases e
  | er x y => rw [q] at e; cases e
  | ok v ρ1 =>
    rw [q] at e
    cases q2 : g ρ1 with
    | bad => simp only [Res.bind_ok, q2, Res.bind_bad] at e; cases e
    | er x y => simp only [Res.bind_ok, q2, Res.bind_er] at e; cases e
    | ok ws ρ2 =>
      simp only [Res.bind_ok, q2] at e
      cases e
      rw [List.length_cons, h _ _ _ q2]
end

/-! ### tests -/
section
variable {X : Cx} {c : RC} {W : WX} {k : Nat} {pos : Pos} {a b : Expr} {rest : List Expr} {f g : EF} {t u : TF}
/-- a test's answer as a value, where the rule gives a truth -/
theorem tE_bl {f : EF} {σ : L2.St} {H : Hp} {Q : Bool → Hp → Prop} (q : tTs c W (tE f) σ H Q) : tEx c W f σ H fun x H1 => ∃ d, x = V.bl d ∧ Q d H1 := by
  obtain ⟨ρ, F, A, gd, e, p⟩ := q
  refine ⟨ρ, F, A, gd, e, ?_⟩
  unfold tE at p
  cases q : f ρ with
  | bad => rw [q] at p; exact p.elim
  | er x ρ1 => rw [q] at p; exact p
  | ok v ρ1 =>
    rw [q] at p
    cases v with
    | bl d =>
      intro x H1 F1 a b s g1 dd r e1
      exact ⟨d, r, p d H1 F1 a b s g1 dd rfl e1⟩
    | _ => exact p.elim
theorem eT_bl {t : TF} {σ : L2.St} {H : Hp} {Q : VK} (q : tEx c W (eT t) σ H Q) : tTs c W t σ H fun d H1 => Q (.bl d) H1 := by
  obtain ⟨ρ, F, A, gd, e, p⟩ := q
  refine ⟨ρ, F, A, gd, e, ?_⟩
  unfold eT at p
  cases q : t ρ with
  | bad => rw [q] at p; exact p.elim
  | er x ρ1 => rw [q] at p; exact p
  | ok v ρ1 =>
    rw [q] at p
    intro x H1 F1 a b s g1 dd r e1
    cases (show x = v from r)
    exact p (.bl v) H1 F1 a b s g1 dd rfl e1
/-- a truth as a test (a call, a name) -/
theorem st_val (h : SE X c W a f) (he : ∀ whole, isTrue a X.env whole = (do let v ← whole; standAt a.pos; holding [v] (truthy v)) := by intro _; rfl) : ST X c W a (tE f) :=
  PT.weak (pt_val h he) fun σ H Q q => tE_bl q
theorem st_not (h : ST X c W a t) : ST X c W (.UnaryOp .Not a pos) (tNot t) := by
  refine PT.weak (pt_not h) fun σ H Q q => ?_
  refine tG.bind q fun v x ρ1 H1 F1 a b g1 d r e1 p1 => ?_
  cases (show x = v from r)
  exact p1.now g1 Sub.r rfl e1
def SW (X : Cx) (c : RC) (W : WX) (e : Expr) (t : TF) : Prop := PW X e (tTs c W t)
theorem SW.st (h : SW X c W a t) : ST X c W a t := PW.pt h
theorem sw_and1 (h : ST X c W a t) : SW X c W (.BoolOp .And [a] pos) t := pw_and1 h
theorem sw_or1 (h : ST X c W a t) : SW X c W (.BoolOp .Or [a] pos) t := pw_or1 h
theorem sw_and (h : ST X c W a t) (hs : SW X c W (.BoolOp .And (b :: rest) pos) u) : SW X c W (.BoolOp .And (a :: b :: rest) pos) (tAnd t u) := by
  refine PW.weak (pw_and h hs) fun σ H Q q => ?_
  refine tG.bind q fun v x ρ1 H1 F1 a b g1 d r e1 p1 => ?_
  cases (show x = v from r)
  cases v with
  | true => rw [if_pos rfl]; rw [if_pos rfl] at p1; exact ⟨ρ1, F1, _, g1.sub Sub.r, e1, p1.sub Sub.r⟩
  | false => rw [if_neg Bool.false_ne_true]; rw [if_neg Bool.false_ne_true] at p1; exact p1.now g1 Sub.r rfl e1
theorem sw_or (h : ST X c W a t) (hs : SW X c W (.BoolOp .Or (b :: rest) pos) u) : SW X c W (.BoolOp .Or (a :: b :: rest) pos) (tOr t u) := by
  refine PW.weak (pw_or h hs) fun σ H Q q => ?_
  refine tG.bind q fun v x ρ1 H1 F1 a b g1 d r e1 p1 => ?_
  cases (show x = v from r)
  cases v with
  | true => rw [if_pos rfl]; rw [if_pos rfl] at p1; exact p1.now g1 Sub.r rfl e1
  | false => rw [if_neg Bool.false_ne_true]; rw [if_neg Bool.false_ne_true] at p1; exact ⟨ρ1, F1, _, g1.sub Sub.r, e1, p1.sub Sub.r⟩
/-- and, or, not as values: all but the last are truths -/
theorem se_one {op} (h : SE X c W a f) : SE X c W (.BoolOp op [a] pos) f := pe_one h
def eAnd (t : TF) (g : EF) : EF := fun ρ => (t ρ).bind fun b ρ1 => if b = true then g ρ1 else .ok (.bl false) ρ1
def eOr (t : TF) (g : EF) : EF := fun ρ => (t ρ).bind fun b ρ1 => if b = true then .ok (.bl true) ρ1 else g ρ1
theorem se_and (h : SE X c W a f) (hs : SE X c W (.BoolOp .And (b :: rest) pos) g) : SE X c W (.BoolOp .And (a :: b :: rest) pos) (eAnd (tE f) g) := by
  refine PE.weak (pe_and h hs) fun σ H Q q => ?_
  refine tE_bl (Q := fun d H1 => if d = true then tEx c W g σ H1 Q else Q (.bl false) H1) ?_
  refine tG.bind (rel := relB) q fun v x ρ1 H1 F1 a b g1 d r e1 p1 => ?_
  cases (show x = v from r)
  cases v with
  | true => rw [if_pos rfl]; rw [if_pos rfl] at p1; exact ⟨ρ1, F1, _, g1.sub Sub.r, e1, p1.sub Sub.r⟩
  | false => rw [if_neg Bool.false_ne_true]; rw [if_neg Bool.false_ne_true] at p1; exact p1.now g1 Sub.r rfl e1
theorem se_or (h : SE X c W a f) (hs : SE X c W (.BoolOp .Or (b :: rest) pos) g) : SE X c W (.BoolOp .Or (a :: b :: rest) pos) (eOr (tE f) g) := by
  refine PE.weak (pe_or h hs) fun σ H Q q => ?_
  refine tE_bl (Q := fun d H1 => if d = true then Q (.bl true) H1 else tEx c W g σ H1 Q) ?_
  refine tG.bind (rel := relB) q fun v x ρ1 H1 F1 a b g1 d r e1 p1 => ?_
  cases (show x = v from r)
  cases v with
  | true => rw [if_pos rfl]; rw [if_pos rfl] at p1; exact p1.now g1 Sub.r rfl e1
  | false => rw [if_neg Bool.false_ne_true]; rw [if_neg Bool.false_ne_true] at p1; exact ⟨ρ1, F1, _, g1.sub Sub.r, e1, p1.sub Sub.r⟩
theorem se_not (h : SE X c W a f) : SE X c W (.UnaryOp .Not a pos) (eT (tNot (tE f))) := by
  refine PE.weak (pe_not h) fun σ H Q q => ?_
  refine tE_bl (Q := fun d H1 => Q (.bl (!d)) H1) ?_
  refine tG.bind (rel := relB) (eT_bl q) fun v x ρ1 H1 F1 a b g1 d r e1 p1 => ?_
  cases (show x = v from r)
  exact p1.now g1 Sub.r rfl e1
theorem se_if {d : Expr} (hc : ST X c W d t) (ha : SE X c W a f) (hb : SE X c W b g) : SE X c W (.IfExp d a b pos) (eIf t f g) := by
  refine PE.weak (pe_ifExp hc ha hb) fun σ H Q q => ?_
  refine tG.bind (rel := relB) q fun v x ρ1 H1 F1 a b g1 d r e1 p1 => ?_
  cases (show x = v from r)
  cases v with
  | true => rw [if_pos rfl]; rw [if_pos rfl] at p1; exact ⟨ρ1, F1, _, g1.sub Sub.r, e1, p1.sub Sub.r⟩
  | false => rw [if_neg Bool.false_ne_true]; rw [if_neg Bool.false_ne_true] at p1; exact ⟨ρ1, F1, _, g1.sub Sub.r, e1, p1.sub Sub.r⟩
end

/-! ### operators by their rules -/
section
variable {X : Cx} {c : RC} {W : WX} {pos : Pos} {a b d : Expr} {oa ob od : Opd}
def K1 (c : RC) (r : V → Hp → VK → Prop) (k : PV → Option PV) : Prop := ∀ v z x H F Q A, Good H F Emp → R c H F v x A → k v = some z → Fin c H F z Q → r x H Q
def K2 (c : RC) (r : R2) (k : PV → PV → Option PV) : Prop := ∀ v w z x y H F Q A B, Good H F Emp → R c H F v x A → R c H F w y B → k v w = some z → Fin c H F z Q → r x y H Q
def C1 (c : RC) (r : V → Hp → VK → Prop) (k : PV → Option Bool) : Prop := ∀ v z x H F Q A, Good H F Emp → R c H F v x A → k v = some z → Q (.bl z) H → r x H Q
def C2 (c : RC) (r : R2) (k : PV → PV → Option Bool) : Prop := ∀ v w z x y H F Q A B, Good H F Emp → R c H F v x A → R c H F w y B → k v w = some z → Q (.bl z) H → r x y H Q
theorem two_k {r : R2} {k : PV → PV → Option PV} (hk : K2 c r k) {σ : L2.St} {H : Hp} {Q : VK} (q : tEx c W (eP2 k oa ob) σ H Q) : tO c W oa σ H fun x H1 => tO c W ob σ H1 fun y H2 => r x y H2 Q :=
  tO.two q fun v w x x' y ρ1 H1 F1 A1 bb g sb e ⟨_, _, r1⟩ ⟨_, _, r2⟩ kk p => hk v w y x x' H1 F1 Q _ _ (g.sub Sub.emp) r1 r2 kk (p.fin g sb e)
theorem two_c {r : R2} {k : PV → PV → Option Bool} (hk : C2 c r k) {σ : L2.St} {H : Hp} {Q : Bool → Hp → Prop} (q : tTs c W (tPV2 k oa ob) σ H Q) : tO c W oa σ H fun x H1 => tO c W ob σ H1 fun y H2 => r x y H2 fun z H3 => ∃ d, z = .bl d ∧ Q d H3 :=
  tO.two q fun v w x x' y ρ1 H1 F1 A1 bb g sb e ⟨_, _, r1⟩ ⟨_, _, r2⟩ kk p => hk v w y x x' H1 F1 _ _ _ (g.sub Sub.emp) r1 r2 kk ⟨y, rfl, p.now g sb rfl e⟩
theorem one_k {r : V → Hp → VK → Prop} {k : PV → Option PV} (hk : K1 c r k) {σ : L2.St} {H : Hp} {Q : VK} (q : tEx c W (eP1 k oa) σ H Q) : tO c W oa σ H fun x H1 => r x H1 Q :=
  tO.one q fun v x y ρ1 H1 F1 A1 bb g sb e ⟨_, _, r1⟩ kk p => hk v y x H1 F1 Q _ (g.sub Sub.emp) r1 kk (p.fin g sb e)
theorem one_c {r : V → Hp → VK → Prop} {k : PV → Option Bool} (hk : C1 c r k) {σ : L2.St} {H : Hp} {Q : Bool → Hp → Prop} (q : tTs c W (tPV k oa) σ H Q) : tO c W oa σ H fun x H1 => r x H1 fun z H3 => ∃ d, z = .bl d ∧ Q d H3 :=
  tO.one q fun v x y ρ1 H1 F1 A1 bb g sb e ⟨_, _, r1⟩ kk p => hk v y x H1 F1 _ _ (g.sub Sub.emp) r1 kk ⟨y, rfl, p.now g sb rfl e⟩
theorem se_bin {op : Operator} {r : R2} {k : PV → PV → Option PV} (ho : OpR X (binaryOp op) r) (hk : K2 c r k) (ha : SO X c W a oa) (hb : SO X c W b ob) : SE X c W (.BinOp a op b pos) (eP2 k oa ob) :=
  PE.weak (pe_op ho ha hb) fun σ H Q q => two_k hk q
theorem se_un {op : UnaryOp} {r : V → Hp → VK → Prop} {k : PV → Option PV} (ho : UnR X (unaryOp op) r) (hk : K1 c r k) (ha : SO X c W a oa) : SE X c W (.UnaryOp op a pos) (eP1 k oa) :=
  PE.weak (pe_un ho ha) fun σ H Q q => one_k hk q
theorem st_cmp {op : CmpOp} {r : R2} {k : PV → PV → Option Bool} (ho : OpR X (compareOp op) r) (hk : C2 c r k) (ha : SO X c W a oa) (hb : SO X c W b ob) (hm : behindInMarks op b = false) : ST X c W (.Compare a [op] [b] pos) (tPV2 k oa ob) :=
  PT.weak (pt_cmpR ho ha hb hm) fun σ H Q q => two_c hk q
theorem se_cmp {op : CmpOp} {r : R2} {k : PV → PV → Option Bool} (ho : OpR X (compareOp op) r) (hk : C2 c r k) (ha : SO X c W a oa) (hb : SO X c W b ob) (hm : behindInMarks op b = false) : SE X c W (.Compare a [op] [b] pos) (eT (tPV2 k oa ob)) :=
  PE.weak (pe_cmpR ho ha hb hm) fun σ H Q q => tO.two (eT_bl q) fun v w x x' y ρ1 H1 F1 A1 bb g sb e ⟨_, _, r1⟩ ⟨_, _, r2⟩ kk p => hk v w y x x' H1 F1 _ _ _ (g.sub Sub.emp) r1 r2 kk (p.now g sb rfl e)
/-- a built-in by its name -/
theorem se_call1 {id : String} {x : Str} {p : Pos} {r : List V → Hp → VK → Prop} {k : PV → Option PV} (hc : CallR X (.builtin id) r) (hk : K1 c (fun v => r [v]) k) (hg : Gl X x) (hm : X.mg x = none) (hv : bootBuiltins x = some (.builtin id)) (ha : SO X c W a oa)
    (hn : x ≠ "__name__" := by decide) (hdb : (x == ("__debug__" : Str)) = false := by decide) (st : starEach [a] X.env = (false, eval a X.env) :: starEach [] X.env := by rfl) (he : (backTo pos (starEach [] X.env)).any (·.1) = false := by rfl) :
    SE X c W (.Call (.Name x p) [a] [] pos) (eP1 k oa) :=
  PE.weak (pe_callB hc hg hm hv (pa_cons ha pa_nil st) hn hdb st he) fun σ H Q q => one_k hk q
theorem se_call2 {id : String} {x : Str} {p : Pos} {r : List V → Hp → VK → Prop} {k : PV → PV → Option PV} (hc : CallR X (.builtin id) r) (hk : K2 c (fun v w => r [v, w]) k) (hg : Gl X x) (hm : X.mg x = none) (hv : bootBuiltins x = some (.builtin id)) (ha : SO X c W a oa) (hb : SO X c W b ob)
    (hn : x ≠ "__name__" := by decide) (hdb : (x == ("__debug__" : Str)) = false := by decide) (st : starEach [a, b] X.env = (false, eval a X.env) :: starEach [b] X.env := by rfl) (st2 : starEach [b] X.env = (false, eval b X.env) :: starEach [] X.env := by rfl) (he : (backTo pos (starEach [b] X.env)).any (·.1) = false := by rfl) :
    SE X c W (.Call (.Name x p) [a, b] [] pos) (eP2 k oa ob) :=
  PE.weak (pe_callB hc hg hm hv (pa_cons ha (pa_cons hb pa_nil st2) st) hn hdb st he) fun σ H Q q => two_k hk q
/-- a built-in class by its name -/
theorem se_ty1 {T : String} {x : Str} {p : Pos} {r : List V → Hp → VK → Prop} {k : PV → Option PV} (hc : CallR X (.type T) r) (hk : K1 c (fun v => r [v]) k) (hg : Gl X x) (hm : X.mg x = none) (hv : bootBuiltins x = some (.type T)) (ha : SO X c W a oa)
    (hn : x ≠ "__name__" := by decide) (hdb : (x == ("__debug__" : Str)) = false := by decide) (st : starEach [a] X.env = (false, eval a X.env) :: starEach [] X.env := by rfl) (he : (backTo pos (starEach [] X.env)).any (·.1) = false := by rfl) :
    SE X c W (.Call (.Name x p) [a] [] pos) (eP1 k oa) :=
  PE.weak (pe_callTy hc hg hm hv (pa_cons ha pa_nil st) hn hdb st he) fun σ H Q q => one_k hk q
end
end Tr
set_option Elab.async false
set_option linter.all false
set_option maxRecDepth 100000
set_option maxHeartbeats 4000000
/-! Tr.V: what the operators and built-ins of TrOps are worth over the heap. -/
namespace Tr
open PySem PySem.Spec L2

section
variable {c : RC} {H : Hp} {F A : AS}
theorem R.lstR {w : Bool} {xs : List PV} {x : V} {a : AS} (r : R c H F (.lst w xs) x a) : ∃ p vs b, x = .ref p ∧ Rd H p (.lst vs) ∧ xs.length ≤ big ∧ Sub b a ∧ Rs c H F xs vs b := by
  cases w with
  | true => obtain ⟨p, vs, a', e, l, q, m, n, t, r⟩ := r; exact ⟨p, vs, a', e, .inl q, l, t, r⟩
  | false => obtain ⟨p, vs, e, ⟨q, l⟩, r⟩ := r; exact ⟨p, vs, Emp, e, q.1, l, Sub.emp, r⟩
theorem R.tupR {xs : List PV} {x : V} {a : AS} (r : R c H F (.tup xs) x a) : ∃ p vs, x = .ref p ∧ SqT c.K H p vs ∧ xs.length ≤ big ∧ Rs c H F xs vs a := by
  obtain ⟨p, vs, e, ⟨q, l⟩, r⟩ := r; exact ⟨p, vs, e, q.sq, l, r⟩
theorem R.tupB {xs : List PV} {x : V} {a : AS} (r : R c H F (.tup xs) x a) : ∃ p vs, x = .ref p ∧ SqB c.K H p vs ∧ xs.length ≤ big ∧ Rs c H F xs vs a := by
  obtain ⟨p, vs, e, ⟨q, l⟩, r⟩ := r; exact ⟨p, vs, e, q, l, r⟩
theorem R.dctR {w : Bool} {ks : List Key} {xs : List PV} {x : V} {a : AS} (r : R c H F (.dct w ks xs) x a) : ∃ p vs b, x = .ref p ∧ Rd H p (.dK (ks.zip vs)) ∧ ks.length = xs.length ∧ xs.length ≤ big ∧ Sub b a ∧ Rs c H F xs vs b := by
  cases w with
  | true => obtain ⟨p, vs, a', e, l, q, m, n, t, r⟩ := r; exact ⟨p, vs, a', e, .inl q, l.1, l.2, t, r⟩
  | false => obtain ⟨p, vs, e, l, q, r⟩ := r; exact ⟨p, vs, Emp, e, q.1, l.1, l.2, Sub.emp, r⟩
theorem Rs.at {xs : List PV} {vs : List V} {a : AS} {i : Int} {x : PV} (r : Rs c H F xs vs a) (h : atI xs i = some x) (f : fro x = true) : ∃ v, L2.atI vs i = some v ∧ R c H F x v Emp := by
  unfold atI at h
  cases q : ixN xs.length i with
  | none => rw [q] at h; cases h
  | some j =>
    rw [q] at h
    obtain ⟨v, b, h1, _, h3⟩ := r.get (i := j) h
    refine ⟨v, ?_, R.emp h3 f⟩
    show (L2.ixN vs.length i).bind (fun j => vs[j]?) = some v
    rw [r.len, show L2.ixN xs.length i = some j from q]
    exact h1
theorem Rs.take : ∀ {xs : List PV} {vs : List V} (n : Nat), Rs c H F xs vs Emp → Rs c H F (xs.take n) (vs.take n) Emp
  | xs, vs, n, r => by
    refine Rs.of_emp (by rw [List.length_take, List.length_take, r.len]) fun i x v e1 e2 => ?_
    rw [List.getElem?_take] at e1 e2
    by_cases h : i < n
    · rw [if_pos h] at e1 e2
      obtain ⟨v', b, h1, h2, h3⟩ := r.get e1
      rw [h1] at e2; cases e2
      exact R.mono h3 h2
    · rw [if_neg h] at e1; cases e1
theorem Rs.drop {xs : List PV} {vs : List V} (n : Nat) (r : Rs c H F xs vs Emp) : Rs c H F (xs.drop n) (vs.drop n) Emp := by
  refine Rs.of_emp (by rw [List.length_drop, List.length_drop, r.len]) fun i x v e1 e2 => ?_
  rw [List.getElem?_drop] at e1 e2
  obtain ⟨v', b, h1, h2, h3⟩ := r.get e1
  rw [h1] at e2; cases e2
  exact R.mono h3 h2
theorem Rs.cut {xs : List PV} {vs : List V} {lo hi : Option Int} (r : Rs c H F xs vs Emp) : Rs c H F (cut xs lo hi) (cutV vs lo hi) Emp := by
  unfold Tr.cut cutV
  rw [r.len]
  exact (r.drop _).take _
theorem Rs.rev {xs : List PV} {vs : List V} (r : Rs c H F xs vs Emp) : Rs c H F xs.reverse vs.reverse Emp := by
  refine Rs.of_emp (by rw [List.length_reverse, List.length_reverse, r.len]) fun i x v e1 e2 => ?_
  have hi : i < xs.length := by
    have := (List.getElem?_eq_some_iff.mp e1).1
    rwa [List.length_reverse] at this
  rw [List.getElem?_reverse hi] at e1
  rw [List.getElem?_reverse (by rw [r.len]; exact hi), r.len] at e2
  obtain ⟨v', b, h1, h2, h3⟩ := r.get e1
  rw [h1] at e2; cases e2
  exact R.mono h3 h2
theorem Rs.ints : ∀ {xs : List PV} {vs : List V} {a : AS} {is : List Int}, Rs c H F xs vs a → Tr.allI xs = some is → vs = is.map V.int
  | [], vs, _, _, r, h => by cases h; exact r
  | .int i :: xs, _, _, is, ⟨v, vs', b, d, e, _, _, _, r, rs⟩, h => by
    rw [Tr.allI] at h
    cases q : Tr.allI xs with
    | none => rw [q] at h; cases h
    | some js =>
      rw [q] at h; cases h
      rw [e, show v = V.int i from r, rs.ints q, List.map_cons]
  | .non :: _, _, _, _, _, h => by cases h
  | .bl _ :: _, _, _, _, _, h => by cases h
  | .str _ :: _, _, _, _, _, h => by cases h
  | .tup _ :: _, _, _, _, _, h => by cases h
  | .lst _ _ :: _, _, _, _, _, h => by cases h
  | .dct _ _ _ :: _, _, _, _, _, h => by cases h
  | .ins _ _ _ :: _, _, _, _, _, h => by cases h
  | .con _ :: _, _, _, _, _, h => by cases h
  | .exc _ _ :: _, _, _, _, _, h => by cases h
theorem Rs.bls : ∀ {xs : List PV} {vs : List V} {a : AS} {is : List Bool}, Rs c H F xs vs a → Tr.bls xs = some is → vs = is.map V.bl
  | [], vs, _, _, r, h => by cases h; exact r
  | .bl i :: xs, _, _, is, ⟨v, vs', b, d, e, _, _, _, r, rs⟩, h => by
    rw [Tr.bls] at h
    cases q : Tr.bls xs with
    | none => rw [q] at h; cases h
    | some js =>
      rw [q] at h; cases h
      rw [e, show v = V.bl i from r, rs.bls q, List.map_cons]
  | .non :: _, _, _, _, _, h => by cases h
  | .int _ :: _, _, _, _, _, h => by cases h
  | .str _ :: _, _, _, _, _, h => by cases h
  | .tup _ :: _, _, _, _, _, h => by cases h
  | .lst _ _ :: _, _, _, _, _, h => by cases h
  | .dct _ _ _ :: _, _, _, _, _, h => by cases h
  | .ins _ _ _ :: _, _, _, _, _, h => by cases h
  | .con _ :: _, _, _, _, _, h => by cases h
  | .exc _ _ :: _, _, _, _, _, h => by cases h
theorem Rs.strs : ∀ {xs : List PV} {vs : List V} {a : AS} {is : List Str}, Rs c H F xs vs a → Tr.allS xs = some is → vs = is.map V.str ∧ ∀ z ∈ is, sOk z = true
  | [], vs, _, _, r, h => by cases h; exact ⟨r, fun _ z => nomatch z⟩
  | .str i :: xs, _, _, is, ⟨v, vs', b, d, e, _, _, _, r, rs⟩, h => by
    rw [Tr.allS] at h
    cases q : Tr.allS xs with
    | none => rw [q] at h; cases h
    | some js =>
      rw [q] at h; cases h
      obtain ⟨h1, h2⟩ := rs.strs q
      refine ⟨by rw [e, show v = V.str i from r.1, h1, List.map_cons], fun z hz => ?_⟩
      rcases List.mem_cons.mp hz with rfl | hz
      · exact r.2
      · exact h2 z hz
  | .non :: _, _, _, _, _, h => by cases h
  | .bl _ :: _, _, _, _, _, h => by cases h
  | .int _ :: _, _, _, _, _, h => by cases h
  | .tup _ :: _, _, _, _, _, h => by cases h
  | .lst _ _ :: _, _, _, _, _, h => by cases h
  | .dct _ _ _ :: _, _, _, _, _, h => by cases h
  | .ins _ _ _ :: _, _, _, _, _, h => by cases h
  | .con _ :: _, _, _, _, _, h => by cases h
  | .exc _ _ :: _, _, _, _, _, h => by cases h

/-! ### data -/
mutual
def toPD : PV → PyData
  | .non => .none | .bl b => .bool b | .int i => .int i | .str x => .str x
  | .tup xs => .tuple (toPDs xs)
  | .lst _ xs => .list (toPDs xs)
  | .dct .. => .none | .ins .. => .none | .con _ => .none | .exc .. => .none
def toPDs : List PV → List PyData
  | [] => []
  | x :: xs => toPD x :: toPDs xs
end
theorem R.dp : ∀ (n : Nat) {v : PV} {x : V} {a : AS}, dat n v = true → R c H F v x a → Dp c.K H x (toPD v) ∧ (toPD v).canLay0 = true ∧ (toPD v).depth ≤ n := by
  have atom : ∀ (n : Nat) {v : PV} {x : V} {a : AS}, dat 0 v = true → R c H F v x a → Dp c.K H x (toPD v) ∧ (toPD v).canLay0 = true ∧ (toPD v).depth ≤ n := by
    intro n v x a d r
    cases v with
    | non => cases (show x = _ from r); exact ⟨.non, rfl, Nat.zero_le _⟩
    | bl b => cases (show x = _ from r); exact ⟨.bl b, rfl, Nat.zero_le _⟩
    | int i => cases (show x = _ from r); exact ⟨.int i, rfl, Nat.zero_le _⟩
    | str z =>
      obtain ⟨rfl, h⟩ := r
      refine ⟨.str z, ?_, Nat.zero_le _⟩
      unfold sOk at h
      rw [Bool.and_eq_true] at h
      exact h.2
    | _ => cases d
  intro n
  induction n with
  | zero => intro v x a d r; exact atom 0 d r
  | succ n ih =>
    have go : ∀ {xs : List PV} {vs : List V} {a : AS}, xs.all (dat n) = true → Rs c H F xs vs a → DpAll c.K H vs (toPDs xs) ∧ PyData.canLayAll0 (toPDs xs) = true ∧ PyData.depthAll (toPDs xs) ≤ n := by
      intro xs
      induction xs with
      | nil => intro vs a _ r; rw [show vs = [] from r]; exact ⟨.nil, rfl, Nat.zero_le _⟩
      | cons y ys ih2 =>
        intro vs a d r
        obtain ⟨v, vs', b, dd, e, _, _, _, r1, rs⟩ := r
        rw [List.all_cons, Bool.and_eq_true] at d
        obtain ⟨h1, h2, h3⟩ := ih d.1 r1
        obtain ⟨k1, k2, k3⟩ := ih2 d.2 rs
        subst e
        refine ⟨.cons h1 k1, ?_, ?_⟩
        · rw [toPDs, PyData.canLayAll0, h2, k2]; rfl
        · rw [toPDs, PyData.depthAll]; exact Nat.max_le.mpr ⟨h3, k3⟩
    intro v x a d r
    cases v with
    | tup xs =>
      obtain ⟨p, vs, rfl, q, l, rs⟩ := r.tupR
      rw [dat] at d
      obtain ⟨h1, h2, h3⟩ := go d rs
      exact ⟨by rw [toPD]; exact .tup q h1, by rw [toPD, PyData.canLay0]; exact h2, by rw [toPD, PyData.depth]; omega⟩
    | lst w xs =>
      obtain ⟨p, vs, b, rfl, q, l, _, rs⟩ := r.lstR
      rw [dat] at d
      obtain ⟨h1, h2, h3⟩ := go d rs
      exact ⟨by rw [toPD]; exact .lst (.inl q) h1, by rw [toPD, PyData.canLay0]; exact h2, by rw [toPD, PyData.depth]; omega⟩
    | non => exact atom _ rfl r
    | bl _ => exact atom _ rfl r
    | int _ => exact atom _ rfl r
    | str _ => exact atom _ rfl r
    | _ => cases d
theorem eqv_pd : ∀ (n : Nat) {v w : PV}, dat n v = true → dat n w = true → PyData.eqv (toPD v) (toPD w) = eqv v w := by
  intro n
  induction n with
  | zero => intro v w d d'; cases v <;> first | (cases d; done) | (cases w <;> first | (cases d'; done) | (simp [toPD, PyData.eqv, eqv, b2i]))
  | succ n ih =>
    have go : ∀ {xs ys : List PV}, xs.all (dat n) = true → ys.all (dat n) = true → PyData.eqvAll (toPDs xs) (toPDs ys) = eqvs xs ys := by
      intro xs
      induction xs with
      | nil => intro ys _ _; cases ys <;> simp [toPDs, PyData.eqvAll, eqvs]
      | cons x xs ih2 =>
        intro ys d d'
        cases ys with
        | nil => simp [toPDs, PyData.eqvAll, eqvs]
        | cons y ys =>
          rw [List.all_cons, Bool.and_eq_true] at d d'
          rw [toPDs, toPDs, PyData.eqvAll, eqvs, ih d.1 d'.1, ih2 d.2 d'.2]
    intro v w d d'
    cases v with
    | tup xs =>
      rw [dat] at d
      cases w with
      | tup ys => rw [dat] at d'; rw [toPD, toPD, PyData.eqv, eqv, go d d']
      | _ => first | (cases d'; done) | (simp [toPD, PyData.eqv, eqv])
    | lst b xs =>
      rw [dat] at d
      cases w with
      | lst b' ys => rw [dat] at d'; rw [toPD, toPD, PyData.eqv, eqv, go d d']
      | _ => first | (cases d'; done) | (simp [toPD, PyData.eqv, eqv])
    | non => cases w <;> first | (cases d'; done) | (simp [toPD, PyData.eqv, eqv, b2i])
    | bl _ => cases w <;> first | (cases d'; done) | (simp [toPD, PyData.eqv, eqv, b2i])
    | int _ => cases w <;> first | (cases d'; done) | (simp [toPD, PyData.eqv, eqv, b2i])
    | str _ => cases w <;> first | (cases d'; done) | (simp [toPD, PyData.eqv, eqv, b2i])
    | _ => cases d
theorem shaped_of {v : PV} {x : V} {a : AS} (d : dat deep v = true) (r : R c H F v x a) : SeqAt.shaped (toPD v) = true := by
  obtain ⟨_, h2, h3⟩ := R.dp deep d r
  unfold SeqAt.shaped
  rw [h2, Bool.true_and]
  exact decide_eq_true (Nat.le_trans h3 (by decide))
theorem k_eq : C2 c (rEqD c.K) cEq := by
  intro v w z x y H F Q A B g r1 r2 k q
  unfold cEq at k
  cases d1 : dat deep v with
  | false => rw [d1, Bool.false_and] at k; cases k
  | true =>
    cases d2 : dat deep w with
    | false => rw [d1, d2] at k; cases k
    | true =>
      rw [d1, d2] at k; cases k
      exact ⟨_, _, (R.dp deep d1 r1).1, (R.dp deep d2 r2).1, shaped_of d1 r1, shaped_of d2 r2, by rw [eqv_pd deep d1 d2]; exact q⟩
theorem k_ne : C2 c (rNeD c.K) cNe := by
  intro v w z x y H F Q A B g r1 r2 k q
  unfold cNe at k
  cases d1 : dat deep v with
  | false => rw [d1, Bool.false_and] at k; cases k
  | true =>
    cases d2 : dat deep w with
    | false => rw [d1, d2] at k; cases k
    | true =>
      rw [d1, d2] at k; cases k
      exact ⟨_, _, (R.dp deep d1 r1).1, (R.dp deep d2 r2).1, shaped_of d1 r1, shaped_of d2 r2, by rw [eqv_pd deep d1 d2]; exact q⟩

/-! ### ints -/
theorem ii {k : PV → PV → Option PV} {v w z : PV} (hk : k v w = some z) (h : ∀ i j, k (.int i) (.int j) = k (.int i) (.int j)) : True := trivial
theorem k_sub : K2 c (rI0 fun i j => .int (i - j)) bSub := by
  intro v w z x y H F Q A B g r1 r2 k q
  cases v <;> cases w <;> cases k
  cases (show x = _ from r1); cases (show y = _ from r2)
  exact ⟨_, _, rfl, rfl, q.now g rfl⟩
theorem k_lt : C2 c (rI0 fun i j => .bl (decide (i < j))) cLt := by
  intro v w z x y H F Q A B g r1 r2 k q
  cases v <;> cases w <;> cases k
  cases (show x = _ from r1); cases (show y = _ from r2)
  exact ⟨_, _, rfl, rfl, q⟩
theorem k_le : C2 c (rI0 fun i j => .bl (decide (i ≤ j))) cLe := by
  intro v w z x y H F Q A B g r1 r2 k q
  cases v <;> cases w <;> cases k
  cases (show x = _ from r1); cases (show y = _ from r2)
  exact ⟨_, _, rfl, rfl, q⟩
theorem k_gt : C2 c (rI0 fun i j => .bl (decide (j < i))) cGt := by
  intro v w z x y H F Q A B g r1 r2 k q
  cases v <;> cases w <;> cases k
  cases (show x = _ from r1); cases (show y = _ from r2)
  exact ⟨_, _, rfl, rfl, q⟩
theorem k_ge : C2 c (rI0 fun i j => .bl (decide (j ≤ i))) cGe := by
  intro v w z x y H F Q A B g r1 r2 k q
  cases v <;> cases w <;> cases k
  cases (show x = _ from r1); cases (show y = _ from r2)
  exact ⟨_, _, rfl, rfl, q⟩
theorem k_div : K2 c (rI CDivW fun i j => .int (i / j)) bDiv := by
  intro v w z x y H F Q A B g r1 r2 k q
  cases v <;> cases w <;> first | (cases k; done) | skip
  cases (show x = _ from r1); cases (show y = _ from r2)
  rename_i i j
  unfold bDiv at k
  by_cases h : divOk j = true
  · simp only [h, if_true] at k; cases k
    unfold divOk at h
    simp only [Bool.and_eq_true, decide_eq_true_eq] at h
    exact ⟨_, _, rfl, rfl, h, q.now g rfl⟩
  · simp only [h] at k; cases k
theorem k_mod : K2 c (rI (fun _ j => 0 < j) fun i j => .int (i % j)) bMod := by
  intro v w z x y H F Q A B g r1 r2 k q
  cases v <;> cases w <;> first | (cases k; done) | skip
  cases (show x = _ from r1); cases (show y = _ from r2)
  rename_i i j
  unfold bMod at k
  by_cases h : 0 < j
  · simp only [h, decide_true, if_true] at k; cases k
    exact ⟨_, _, rfl, rfl, h, q.now g rfl⟩
  · simp only [h] at k; cases k
def CPowW (i j : Int) : Prop := 0 ≤ j ∧ (Builtin.Int.intBits i : Int) * j ≤ 2 ^ 27
theorem op_powW {X : Cx} : OpR X (binaryOp .Pow) (rI CPowW fun i j => .int (i ^ j.toNat)) := opI fun _ _ _ _ _ _ _ hc q => PyProof.Rows.pow_int hc.1 hc.2 q
theorem k_pow : K2 c (rI CPowW fun i j => .int (i ^ j.toNat)) bPow := by
  intro v w z x y H F Q A B g r1 r2 k q
  cases v <;> cases w <;> first | (cases k; done) | skip
  cases (show x = _ from r1); cases (show y = _ from r2)
  rename_i i j
  unfold bPow at k
  by_cases h : powOk i j = true
  · simp only [h, if_true] at k; cases k
    unfold powOk at h
    simp only [Bool.and_eq_true, decide_eq_true_eq] at h
    refine ⟨_, _, rfl, rfl, ⟨h.1, Int.le_trans ?_ h.2⟩, q.now g rfl⟩
    refine Int.mul_le_mul_of_nonneg_right ?_ h.1
    have : Builtin.Int.intBits i ≤ i.natAbs.log2 + 1 := by
      unfold Builtin.Int.intBits
      split <;> omega
    exact_mod_cast this
  · simp only [h] at k; cases k
theorem k_neg : K1 c (rU fun i => .int (-i)) uNeg := by
  intro v z x H F Q A g r k q
  cases v <;> cases k
  cases (show x = _ from r)
  exact ⟨_, rfl, q.now g rfl⟩
end

/-! ### + and * -/
section
variable {X : Cx} {c : RC}
/-- two lists that are read -/
theorem rd_lst {pins : List (Addr × Obj)} {σ : L2.St} {H : Hp} {s : Shared} {p : Addr} {xs : List V} (I : L2.Inv X pins σ H s) (h : Rd H p (.lst xs)) : xs.length ≤ sizeLine ∧ ∃ (its : List Value) (n : Nat), Vals xs its ∧ xs.length = its.length ∧ s.heap.get? p = some { cls := .type "list", data := .seq its.toArray n } := by
  obtain ⟨z, its, n, r, e⟩ := h.ok I.hok
  exact ⟨z, its, n, r, r.length, e⟩
def rCatS : R2 := fun x y H Q => ∃ l b xs zs, x = .ref l ∧ y = .ref b ∧ Rd H l (.lst xs) ∧ Rd H b (.lst zs) ∧ xs.length + zs.length ≤ sizeLine ∧ ∀ p, H p = none → Q (.ref p) (upd H p (.lst (xs ++ zs)))
theorem op_catS : OpR X (binaryOp .Add) rCatS := by
  intro pins s σ H x y v u Q I rx ry h
  obtain ⟨l, b, xs, zs, rfl, rfl, hH, hB, hz, q⟩ := h
  cases rx
  cases ry
  obtain ⟨z, its, n, r, hl, e⟩ := rd_lst I hH
  obtain ⟨z2, its2, n2, r2, hl2, e2⟩ := rd_lst I hB
  refine PySem.P.add_list e e2 ?_ (by rw [List.size_toArray, List.size_toArray]; omega)
  have ea : its.toArray ++ its2.toArray = (its ++ its2).toArray := by simp
  rw [ea]
  exact ⟨.ref _, _, I.lnew (t' := s.toks) (r.append r2) (by rw [List.length_append]; omega), rfl, q _ I.fresh⟩
def rAddAll (K : PySem.W.Frag) : R2 := fun x y H Q => rI0 (fun i j => .int (i + j)) x y H Q ∨ (∃ i j, x = .str i ∧ y = .str j ∧ i.length + j.length ≤ sizeLine ∧ Q (.str (i ++ j)) H) ∨ rCatS x y H Q ∨ rCatB K x y H Q
theorem op_addAll : OpR X (binaryOp .Add) (rAddAll X.K) := op_add.or (op_add_str.or (op_catS.or op_catB))
theorem sOk_append {x y : Str} (hx : sOk x = true) (hy : sOk y = true) (l : x.length + y.length ≤ big) : sOk (x ++ y) = true := by
  unfold sOk at *
  rw [Bool.and_eq_true] at *
  have e : (x ++ y).cps = x.cps ++ y.cps := rfl
  refine ⟨decide_eq_true ?_, ?_⟩
  · show (x ++ y).cps.size ≤ big
    rw [e, Array.size_append]; exact l
  · rw [e, Array.all_append, hx.2, hy.2]; rfl
theorem k_add : K2 c (rAddAll c.K) bAdd := by
  intro v w z x y H F Q A B g r1 r2 k q
  cases v <;> cases w <;> first | (cases k; done) | skip
  · cases (show x = _ from r1); cases (show y = _ from r2); cases k
    exact .inl ⟨_, _, rfl, rfl, q.now g rfl⟩
  · obtain ⟨rfl, s1⟩ := r1
    obtain ⟨rfl, s2⟩ := r2
    simp only [bAdd] at k
    split at k
    · rename_i l
      cases k
      exact .inr (.inl ⟨_, _, rfl, rfl, l, q.now g ⟨rfl, sOk_append s1 s2 l⟩⟩)
    · cases k
  · obtain ⟨p1, vs1, e1, q1, l1, rs1⟩ := r1.tupB
    obtain ⟨p2, vs2, e2, q2, l2, rs2⟩ := r2.tupB
    subst e1 e2
    simp only [bAdd] at k
    split at k
    · rename_i h
      cases k
      simp only [Bool.and_eq_true, decide_eq_true_eq] at h
      have t1 := rs1.emp h.1.1
      have t2 := rs2.emp h.1.2
      have n1 := rs1.len
      have n2 := rs2.len
      refine .inr (.inr (.inr ⟨p1, p2, vs1, vs2, rfl, rfl, q1.sq, q2.sq, by rw [n1, n2]; exact h.2, fun e => ?_, fun _ e => ?_, fun _ _ p o hp hb => ?_⟩))
      · have : (_ : List PV) = [] := List.eq_nil_of_length_eq_zero (by rw [← n1, e]; rfl)
        rw [this, List.nil_append] at q
        exact q.now g ⟨p2, vs2, rfl, ⟨q2, l2⟩, t2⟩
      · have : (_ : List PV) = [] := List.eq_nil_of_length_eq_zero (by rw [← n2, e]; rfl)
        rw [this, List.append_nil] at q
        exact q.now g ⟨p1, vs1, rfl, ⟨q1, l1⟩, t1⟩
      · exact q.tup g ((t1.append t2 Dis.empl).mono fun _ z => z.elim id id) (by rw [List.length_append]; exact h.2) hp hb
    · cases k
  · obtain ⟨p1, vs1, b1, e1, q1, l1, _, rs1⟩ := r1.lstR
    obtain ⟨p2, vs2, b2, e2, q2, l2, _, rs2⟩ := r2.lstR
    subst e1 e2
    simp only [bAdd] at k
    split at k
    · rename_i h
      cases k
      simp only [Bool.and_eq_true, decide_eq_true_eq] at h
      have t1 := rs1.emp h.1.1
      have t2 := rs2.emp h.1.2
      refine .inr (.inr (.inl ⟨p1, p2, vs1, vs2, rfl, rfl, q1, q2, by rw [rs1.len, rs2.len]; exact h.2, fun p hp => ?_⟩))
      exact q.lst g ((t1.append t2 Dis.empl).mono fun _ z => z.elim id id) (by rw [List.length_append]; exact h.2) hp
    · cases k
end
end Tr
set_option Elab.async false
set_option linter.all false
set_option maxRecDepth 100000
set_option maxHeartbeats 4000000
/-! Tr.V2: built-ins, places, slices, kinds. -/
namespace Tr
open PySem PySem.Spec L2

section
variable {X : Cx} {c : RC}
/-! ### text * int -/
theorem foldl_app (l : List (Array Nat)) : ∀ acc : Array Nat, (l.foldl (· ++ ·) acc).toList = acc.toList ++ (l.map (·.toList)).flatten := by
  induction l with
  | nil => intro acc; simp
  | cons x l ih => intro acc; rw [List.foldl_cons, ih]; simp
theorem mulS_eq (x : Str) (k : Int) (h : 0 ≤ k) : Txt.mul x k = ⟨(List.replicate k.toNat x.cps.toList).flatten.toArray⟩ := by
  unfold Txt.mul
  by_cases h1 : k < 1
  · rw [if_pos h1]
    have : k.toNat = 0 := by omega
    rw [this]; rfl
  · rw [if_neg h1]
    by_cases h2 : (k == 1 || x.length == 0) = true
    · rw [if_pos h2]
      rw [Bool.or_eq_true, beq_iff_eq, beq_iff_eq] at h2
      rcases h2 with h2 | h2
      · subst h2; simp
      · have e : x.cps = #[] := Array.eq_empty_of_size_eq_zero h2
        obtain ⟨xc⟩ := x
        simp only at e; subst e
        simp
    · rw [if_neg h2]
      have e := foldl_app (List.replicate k.toNat x.cps) #[]
      rw [List.map_replicate] at e
      simp only [List.nil_append] at e
      congr 1
      rw [← e]
def rMulS : R2 := fun x y H Q => ∃ (z : Str) (k : Int), x = .str z ∧ y = .int k ∧ MulOk z k ∧ Q (.str (Txt.mul z k)) H
theorem op_mulS : OpR X (binaryOp .Mult) rMulS := by
  rintro pins s σ H x y v u Q I rx ry ⟨z, k, rfl, rfl, ok, q⟩
  obtain ⟨t1, rfl⟩ := rx
  obtain ⟨t2, rfl⟩ := ry
  exact PySem.SB.mul ok fun t' tk => ⟨.str (Txt.mul z k), H, I.tok tk, ⟨t', rfl⟩, q⟩
def rMulAll : R2 := fun x y H Q => rI CMulW (fun i j => .int (i * j)) x y H Q ∨ rMulS x y H Q
theorem op_mulAll : OpR X (binaryOp .Mult) rMulAll := op_mulW.or op_mulS
theorem k_mul : K2 c rMulAll bMul := by
  intro v w z x y H F Q A B g r1 r2 k q
  cases v <;> cases w <;> first | (cases k; done) | skip
  · cases (show x = _ from r1); cases (show y = _ from r2)
    simp only [bMul] at k
    split at k
    · rename_i h
      cases k
      unfold mulOk at h
      have h2 := of_decide_eq_true h
      exact .inl ⟨_, _, rfl, rfl, h2, q.now g rfl⟩
    · cases k
  · obtain ⟨rfl, s1⟩ := r1
    cases (show y = _ from r2)
    rename_i s i
    simp only [bMul] at k
    split at k
    · rename_i h
      cases k
      simp only [Bool.and_eq_true, decide_eq_true_eq] at h
      have ok : MulOk s i := by
        have hb : s.length * i.toNat ≤ 16777216 := h.2
        refine ⟨?_, fun h1 h2 => ?_, fun h1 h2 => ?_⟩
        · rw [decide_eq_false (by omega), decide_eq_false (by omega)]; rfl
        · intro h3
          have h4 : ((2 : Int) ^ 63 - 1) / i ≥ 16777216 := by
            refine Int.le_ediv_of_mul_le (by omega) ?_
            omega
          have h5 : s.length ≤ 16777216 := Nat.le_trans (Nat.le_mul_of_pos_right _ (by omega)) hb
          omega
        · unfold Builtin.Str.tooLong
          simp only [decide_eq_false_iff_not]
          have e : (sizeLine : Nat) = 16777216 := by decide
          first | omega | (rw [e]; omega)
      refine .inr ⟨s, i, rfl, rfl, ok, ?_⟩
      rw [mulS_eq s i h.1.1]
      refine q.now g ⟨rfl, ?_⟩
      unfold sOk at s1 ⊢
      rw [Bool.and_eq_true] at s1 ⊢
      refine ⟨decide_eq_true ?_, ?_⟩
      · show ((List.replicate i.toNat s.cps.toList).flatten.toArray).size ≤ big
        rw [List.size_toArray, List.length_flatten, List.map_replicate, List.sum_replicate_nat, Array.length_toList, Nat.mul_comm]
        exact h.2
      · rw [← Array.all_toList, List.all_eq_true]
        intro y hy
        have s2 := s1.2
        rw [← Array.all_toList, List.all_eq_true] at s2
        obtain ⟨l, hl, hy⟩ := List.mem_flatten.mp hy
        exact s2 y (by rw [(List.mem_replicate.mp hl).2] at hy; exact hy)
    · cases k

/-! ### None -/
theorem k_isN : C1 c (fun x H Q => Q (.bl (decide (x = .non))) H) cIsN := by
  intro v z x H F Q A g r k q
  cases v with
  | con _ => cases k
  | exc _ _ => cases k
  | non => cases k; cases (show x = _ from r); exact q
  | bl _ => cases k; cases (show x = _ from r); exact q
  | int _ => cases k; cases (show x = _ from r); exact q
  | str _ => cases k; obtain ⟨rfl, _⟩ := r; exact q
  | tup _ => cases k; obtain ⟨p, vs, rfl, _⟩ := r.tupR; exact q
  | lst _ _ => cases k; obtain ⟨p, vs, b, rfl, _⟩ := r.lstR; exact q
  | dct _ _ _ => cases k; obtain ⟨p, vs, b, rfl, _⟩ := r.dctR; exact q
  | ins w _ _ =>
    cases k
    cases w with
    | true => obtain ⟨p, dx, vs, a', rfl, _⟩ := r; exact q
    | false => obtain ⟨p, dx, vs, rfl, _⟩ := r; exact q
variable {W : WX} {a b : Expr} {pos pos' : Pos} {oa ob : Opd} {j : _}
theorem st_isN (ha : SO X c W a oa) : ST X c W (.Compare a [.Is] [.Constant .none j pos'] pos) (tPV cIsN oa) :=
  PT.weak (pt_cmp (pc_isN ha)) fun σ H Q q => one_c (r := fun x H Q => Q (.bl (decide (x = .non))) H) k_isN q
theorem se_isN (ha : SO X c W a oa) : SE X c W (.Compare a [.Is] [.Constant .none j pos'] pos) (eT (tPV cIsN oa)) :=
  PE.weak (pe_cmp (pc_isN ha)) fun σ H Q q => tO.one (eT_bl q) fun v x y ρ1 H1 F1 A1 bb g sb e ⟨_, _, r1⟩ kk p => k_isN v y x H1 F1 _ _ (g.sub Sub.emp) r1 kk (p.now g sb rfl e)
theorem k_notN : C1 c (fun x H Q => Q (.bl (!decide (x = .non))) H) cNotN := by
  intro v z x H F Q A g r k q
  unfold cNotN at k
  cases e : cIsN v with
  | none => rw [e] at k; cases k
  | some d =>
    rw [e] at k; cases k
    exact k_isN v d x H F (fun y H => Q (match y with | .bl d => .bl (!d) | y => y) H) A g r e q
theorem st_notN (ha : SO X c W a oa) : ST X c W (.Compare a [.IsNot] [.Constant .none j pos'] pos) (tPV cNotN oa) :=
  PT.weak (pt_cmp (pc_notN ha)) fun σ H Q q => one_c (r := fun x H Q => Q (.bl (!decide (x = .non))) H) k_notN q
theorem se_notN (ha : SO X c W a oa) : SE X c W (.Compare a [.IsNot] [.Constant .none j pos'] pos) (eT (tPV cNotN oa)) :=
  PE.weak (pe_cmp (pc_notN ha)) fun σ H Q q => tO.one (eT_bl q) fun v x y ρ1 H1 F1 A1 bb g sb e ⟨_, _, r1⟩ kk p => k_notN v y x H1 F1 _ _ (g.sub Sub.emp) r1 kk (p.now g sb rfl e)

/-! ### in -/
/-- data in a list or tuple of data; one sign in a text -/
def rInD (K : PySem.W.Frag) (neg : Bool) : R2 := fun x y H Q =>
  (∃ d ds, Dp K H x d ∧ (Dp K H y (.list ds) ∨ Dp K H y (.tuple ds)) ∧ d.canLay0 = true ∧ PyData.canLayAll0 ds = true ∧ d.depth ≤ 60 ∧ Q (.bl (if neg then !ds.any (fun y => PyData.eqv y d) else ds.any fun y => PyData.eqv y d)) H) ∨
  ∃ (k : Nat) (z : Str), x = .str ⟨#[k]⟩ ∧ y = .str z ∧ Q (.bl (if neg then !decide (k ∈ z.cps.toList) else decide (k ∈ z.cps.toList))) H
theorem op_inD (hu : X.A.units + 64 < cLine) : OpR X (compareOp .In) (rInD X.K false) := by
  intro pins s σ H x y v u Q I rx ry h
  rcases h with ⟨d, ds, hx, hy, c1, c2, dep, q⟩ | ⟨k, z, rfl, rfl, q⟩
  · obtain ⟨as, r1⟩ := Dp.reads I d x v hx rx
    have le : X.A.units + 1 + min (PyData.depthAll ds) d.depth < cLine := by
      have := Nat.min_le_right (PyData.depthAll ds) d.depth
      omega
    rcases hy with hy | hy
    · obtain ⟨bs, r2⟩ := Dp.reads I _ y u hy ry
      exact SeqAt.in_list_reads r2 r1 c2 c1 le ⟨.bl _, H, I, rfl, q⟩
    · obtain ⟨bs, r2⟩ := Dp.reads I _ y u hy ry
      exact SeqAt.in_tuple_reads r2 r1 c2 c1 le ⟨.bl _, H, I, rfl, q⟩
  · exact op_in_sign pins s σ H _ _ v u Q I rx ry ⟨k, z, rfl, rfl, q⟩
theorem op_niD (hu : X.A.units + 64 < cLine) : OpR X (compareOp .NotIn) (rInD X.K true) := by
  intro pins s σ H x y v u Q I rx ry h
  rcases h with ⟨d, ds, hx, hy, c1, c2, dep, q⟩ | ⟨k, z, rfl, rfl, q⟩
  · obtain ⟨as, r1⟩ := Dp.reads I d x v hx rx
    have le : X.A.units + 1 + min (PyData.depthAll ds) d.depth < cLine := by
      have := Nat.min_le_right (PyData.depthAll ds) d.depth
      omega
    rcases hy with hy | hy
    · obtain ⟨bs, r2⟩ := Dp.reads I _ y u hy ry
      exact SeqAt.notIn_list_reads r2 r1 c2 c1 le ⟨.bl _, H, I, rfl, q⟩
    · obtain ⟨bs, r2⟩ := Dp.reads I _ y u hy ry
      exact SeqAt.notIn_tuple_reads r2 r1 c2 c1 le ⟨.bl _, H, I, rfl, q⟩
  · exact op_notIn_sign pins s σ H _ _ v u Q I rx ry ⟨k, z, rfl, rfl, q⟩
theorem dat_succ : ∀ (n : Nat) {v : PV}, dat n v = true → dat (n + 1) v = true := by
  intro n
  induction n with
  | zero => intro v h; cases v <;> first | rfl | cases h
  | succ n ih =>
    intro v h
    cases v with
    | tup xs => rw [dat] at h ⊢; exact List.all_eq_true.mpr fun y hy => ih (List.all_eq_true.mp h y hy)
    | lst w xs => rw [dat] at h ⊢; exact List.all_eq_true.mpr fun y hy => ih (List.all_eq_true.mp h y hy)
    | non => rfl
    | bl _ => rfl
    | int _ => rfl
    | str _ => rfl
    | _ => cases h
theorem any_pd {v : PV} (hv : dat deep v = true) : ∀ {xs : List PV}, xs.all (dat deep) = true → (toPDs xs).any (fun y => PyData.eqv y (toPD v)) = xs.any fun y => eqv y v
  | [], _ => rfl
  | x :: xs, h => by
    rw [List.all_cons, Bool.and_eq_true] at h
    rw [toPDs, List.any_cons, List.any_cons, eqv_pd deep h.1 hv, any_pd hv h.2]
theorem k_in (neg : Bool) : C2 c (rInD c.K neg) (if neg then cNi else cIn) := by
  have main : ∀ (v w : PV) (z : Bool) (x y : V) (H : Hp) (F : AS) (Q : VK) (A B : AS), R c H F v x A → R c H F w y B → cIn v w = some z → Q (.bl (if neg then !z else z)) H → rInD c.K neg x y H Q := by
    intro v w z x y H F Q A B r1 r2 k q
    have seq : ∀ (xs : List PV) (t : PV), dat deep v = true → xs.all (dat deep) = true → some (xs.any fun y => eqv y v) = some z → (t = .tup xs ∨ ∃ b, t = .lst b xs) → R c H F t y B → rInD c.K neg x y H Q := by
      intro xs t d1 d2 kz ht r2
      cases kz
      obtain ⟨h1, h2, h3⟩ := R.dp deep d1 r1
      have d3 : dat (deep + 1) t = true := by
        rcases ht with rfl | ⟨b, rfl⟩
        · rw [dat]; exact d2
        · rw [dat]; exact d2
      obtain ⟨k1, k2, k3⟩ := R.dp (deep + 1) d3 r2
      refine .inl ⟨toPD v, toPDs xs, h1, ?_, h2, ?_, Nat.le_trans h3 (by decide), by rw [any_pd d1 d2]; exact q⟩
      · rcases ht with rfl | ⟨b, rfl⟩
        · exact .inr (by rw [toPD] at k1; exact k1)
        · exact .inl (by rw [toPD] at k1; exact k1)
      · rcases ht with rfl | ⟨b, rfl⟩
        · rw [toPD, PyData.canLay0] at k2; exact k2
        · rw [toPD, PyData.canLay0] at k2; exact k2
    unfold cIn at k
    split at k
    · rename_i b xs
      split at k
      · rename_i hd
        rw [Bool.and_eq_true] at hd
        exact seq xs _ hd.1 hd.2 k (.inr ⟨b, rfl⟩) r2
      · cases k
    · rename_i xs
      split at k
      · rename_i hd
        rw [Bool.and_eq_true] at hd
        exact seq xs _ hd.1 hd.2 k (.inl rfl) r2
      · cases k
    · rename_i s t
      split at k
      · rename_i one
        cases k
        obtain ⟨rfl, _⟩ := r1
        obtain ⟨rfl, _⟩ := r2
        obtain ⟨⟨l⟩⟩ := s
        cases l with
        | nil => cases one
        | cons d l =>
          cases l with
          | nil => exact .inr ⟨d, t, rfl, rfl, q⟩
          | cons _ _ => exact absurd one (by simp [Str.length])
      · cases k
    · cases k
  intro v w z x y H F Q A B g r1 r2 k q
  cases neg with
  | false => exact main v w z x y H F Q A B r1 r2 k q
  | true =>
    have k' : (cIn v w).map (!·) = some z := k
    cases e : cIn v w with
    | none => rw [e] at k'; cases k'
    | some d =>
      rw [e] at k'; cases k'
      exact main v w d x y H F Q A B r1 r2 e q

/-! ### places -/
theorem k_ix : K2 c (rIx c.K) ix := by
  intro v w z x y H F Q A B g r1 r2 k q
  cases v <;> cases w <;> first | (cases k; done) | skip
  · obtain ⟨rfl, s1⟩ := r1
    cases (show y = _ from r2)
    rename_i s i
    simp only [ix] at k
    cases e : atI s.cps.toList i with
    | none => rw [e] at k; cases k
    | some d =>
      rw [e] at k; cases k
      unfold sOk at s1
      rw [Bool.and_eq_true, decide_eq_true_eq] at s1
      refine .inr (.inr ⟨_, _, d, rfl, rfl, s1.1, e, q.now g ⟨rfl, ?_⟩⟩)
      have hm : d ∈ s.cps.toList := by
        unfold atI at e
        cases e2 : ixN s.cps.toList.length i with
        | none => rw [e2] at e; cases e
        | some j => rw [e2] at e; exact List.mem_of_getElem? e
      have s2 := s1.2
      rw [← Array.all_toList, List.all_eq_true] at s2
      unfold sOk
      have h3 := s2 d hm
      rw [Bool.and_eq_true]
      exact ⟨decide_eq_true (by show 1 ≤ 16777216; omega), by simpa using h3⟩
  · obtain ⟨p, vs, rfl, q1, l, rs⟩ := r1.tupR
    cases (show y = _ from r2)
    rename_i xs i
    simp only [ix] at k
    cases e : atI xs i with
    | none => rw [e] at k; cases k
    | some d =>
      rw [e] at k
      simp only [Option.bind_some, onlyFro] at k
      split at k
      · rename_i f
        cases k
        obtain ⟨u, h1, h2⟩ := rs.at e f
        exact .inr (.inl ⟨p, vs, _, u, rfl, rfl, q1, h1, q.now g h2⟩)
      · cases k
  · obtain ⟨p, vs, b, rfl, q1, l, _, rs⟩ := r1.lstR
    cases (show y = _ from r2)
    rename_i xs i _
    simp only [ix] at k
    cases e : atI xs i with
    | none => rw [e] at k; cases k
    | some d =>
      rw [e] at k
      simp only [Option.bind_some, onlyFro] at k
      split at k
      · rename_i f
        cases k
        obtain ⟨u, h1, h2⟩ := rs.at e f
        exact .inl ⟨p, vs, _, u, rfl, rfl, .inl q1, h1, q.now g h2⟩
      · cases k
theorem se_ix (hK : X.K = c.K) (ha : SO X c W a oa) (hb : SO X c W b ob) (hs : PlainIx b) : SE X c W (.Subscript a b pos) (eP2 ix oa ob) :=
  PE.weak (pe_ix ix_seq ha hb hs) fun σ H Q q => two_k (by rw [hK]; exact k_ix) q

end
end Tr
set_option Elab.async false
set_option linter.all false
set_option maxRecDepth 100000
set_option maxHeartbeats 4000000
/-! Tr.V3: slices, built-ins, kinds. -/
namespace Tr
open PySem PySem.Spec L2

section
variable {X : Cx} {c : RC} {W : WX} {a b : Expr} {pos pos' : Pos} {oa ob : Opd}
/-! ### slices -/
def relI : Hp → AS → Option Int → Option Int → AS → Prop := fun _ _ v x _ => x = v
def SB (X : Cx) (c : RC) (W : WX) (e : Option Expr) (b : Option EF) : Prop := PO X e (tG c W relI (goB b))
theorem PO.weak {e : Option Expr} {t t' : TO} (h : PO X e t) (k : ∀ σ H Q, t' σ H Q → t σ H Q) : PO X e t' := ⟨fun pins s σ H Q I q => h.run pins s σ H Q I (k σ H Q q)⟩
theorem sb_none : SB X c W none none := PO.weak po_none fun σ H Q ⟨ρ, F, A, g, e, p⟩ => p.now g (Sub.refl _) rfl e
theorem sb_some {e : Expr} {f : EF} (h : SE X c W e f) : SB X c W (some e) (some f) := by
  refine PO.weak (po_some h) fun σ H Q q => ?_
  obtain ⟨ρ, F, A, g, e, p⟩ := q
  refine ⟨ρ, F, A, g, e, ?_⟩
  unfold goB at p
  cases q : f ρ with
  | bad => simp only [q] at p; exact p.elim
  | er x ρ1 => simp only [q] at p; exact p
  | ok v ρ1 =>
    simp only [q, Res.bind_ok] at p
    cases v with
    | int i =>
      intro x H1 F1 a b s g1 d r e1
      exact ⟨i, r, p (some i) H1 F1 a b s g1 d rfl e1⟩
    | _ => exact p.elim
def rSlAll (K : PySem.W.Frag) : V → Option Int → Option Int → Hp → VK → Prop := fun x lo hi H Q => rSlL K x lo hi H Q ∨ rSlB K x lo hi H Q ∨ rSlS x lo hi H Q
theorem sl_all : SlR X (rSlAll X.K) := sl_list.or (sl_tupB.or sl_str)
theorem sIx_full (n : Nat) (o : Option Int) : HT.sIx n n o ≤ n := HT.sIx_le n n (Nat.le_refl _) o
theorem cut_whole {α : Type} (xs : List α) (lo hi : Option Int) (h : sIx xs.length 0 lo = 0 ∧ sIx xs.length xs.length hi = xs.length) : cut xs lo hi = xs := by
  unfold cut
  rw [h.1, h.2, List.drop_zero, Nat.sub_zero, List.take_length]
theorem cut_len {α : Type} (xs : List α) (lo hi : Option Int) : (cut xs lo hi).length ≤ xs.length := by
  unfold cut
  rw [List.length_take, List.length_drop]
  omega
theorem cut_mem {α : Type} {xs : List α} {lo hi : Option Int} {y : α} (h : y ∈ cut xs lo hi) : y ∈ xs := List.mem_of_mem_drop (List.mem_of_mem_take h)
theorem k_sl {v z : PV} {lo hi : Option Int} {x : V} {H : Hp} {F A : AS} {Q : VK} (g : Good H F Emp) (r : R c H F v x A) (k : sl v lo hi = some z) (q : Fin c H F z Q) : rSlAll c.K x lo hi H Q := by
  cases v <;> first | (cases k; done) | skip
  · obtain ⟨rfl, s1⟩ := r
    cases k
    unfold sOk at s1
    rw [Bool.and_eq_true, decide_eq_true_eq] at s1
    refine .inr (.inr ⟨_, rfl, s1.1, q.now g ⟨rfl, ?_⟩⟩)
    rename_i s
    unfold sOk
    rw [Bool.and_eq_true]
    refine ⟨decide_eq_true ?_, ?_⟩
    · show ((cut s.cps.toList lo hi).toArray).size ≤ big
      rw [List.size_toArray]
      exact Nat.le_trans (cut_len _ _ _) (by rw [Array.length_toList]; exact s1.1)
    · have s2 := s1.2
      rw [← Array.all_toList, List.all_eq_true] at s2 ⊢
      exact fun y hy => s2 y (cut_mem (by simpa using hy))
  · obtain ⟨p, vs, rfl, q1, l, rs⟩ := r.tupB
    simp only [sl] at k
    split at k
    · rename_i xs f
      cases k
      have t := rs.emp f
      refine .inr (.inl ⟨p, vs, rfl, q1.sq, fun h => ?_, fun h pp o hp hb => ?_⟩)
      · rw [rs.len] at h
        rw [cut_whole _ _ _ h] at q
        exact q.now g ⟨p, vs, rfl, ⟨q1, l⟩, t⟩
      · exact q.tup g t.cut (Nat.le_trans (cut_len _ _ _) l) hp hb
    · cases k
  · obtain ⟨p, vs, b, rfl, q1, l, _, rs⟩ := r.lstR
    simp only [sl] at k
    split at k
    · rename_i f
      cases k
      exact .inl ⟨p, vs, rfl, .inl q1, fun pp hp => q.lst g (rs.emp f).cut (Nat.le_trans (cut_len _ _ _) l) hp⟩
    · cases k
theorem se_sl {lo hi : Option Expr} {p2 : Pos} {fl fh : Option EF} (hK : X.K = c.K) (ha : SO X c W a oa) (hl : SB X c W lo fl) (hh : SB X c W hi fh) : SE X c W (.Subscript a (.Slice lo hi none p2) pos) (eSl oa fl fh) := by
  refine PE.weak (pe_slice sl_all ha hl hh) fun σ H Q q => ?_
  obtain ⟨ρ, F, A, gd, e, p⟩ := q
  refine tO.next (t := Emp) gd Sub.emp (Sub.refl _) Dis.empl e p fun u x ρ1 H1 F1 a1 b1 g1 _ d tm e1 s p1 => ?_
  refine tG.next (t := a1) (b := b1) g1 (Sub.l.trans Sub.r) (Sub.r.trans Sub.r) d e1 p1 fun i i' ρ2 H2 F2 a2 b2 g2 d1 d2 ri e2 s2 p2 => ?_
  have tm2 := tm.step (g1.sub (Sub.r.trans Sub.r)) s2 d
  refine tG.next (t := a1) (b := b2) g2 Sub.l (Sub.r.trans Sub.r) (fun q y z => d1 q y (.inr z)) e2 p2 fun j j' ρ3 H3 F3 a3 b3 g3 d3 d4 rj e3 s3 p3 => ?_
  have tm3 := tm2.step (g2.sub (Sub.r.trans Sub.r)) s3 (fun q y z => d1 q y (.inr z))
  cases (show i' = i from ri)
  cases (show j' = j from rj)
  cases q : oa.get u ρ3 with
  | none => simp only [q] at p3; exact p3.elim
  | some v =>
    simp only [q, Option.bind_some] at p3
    cases q2 : sl v i j with
    | none => simp only [q2] at p3; exact p3.elim
    | some z =>
      simp only [q2] at p3
      obtain ⟨dd, sd, r⟩ := tm3.get e3 q
      rw [hK]
      exact k_sl (g3.sub Sub.emp) r q2 (p3.fin g3 (Sub.r.trans Sub.r) e3)
/-- xs[::-1] -/
def rRevX (K : PySem.W.Frag) : V → Hp → VK → Prop := fun x H Q => ∃ a xs, x = .ref a ∧ SqL K H a xs ∧ ∀ p, H p = none → Q (.ref p) (upd H p (.lst xs.reverse))
theorem k_rv : K1 c (rRevX c.K) rv := by
  intro v z x H F Q A g r k q
  cases v <;> first | (cases k; done) | skip
  obtain ⟨p, vs, b, rfl, q1, l, _, rs⟩ := r.lstR
  simp only [rv] at k
  split at k
  · rename_i f
    cases k
    exact ⟨p, vs, rfl, .inl q1, fun pp hp => q.lst g (rs.emp f).rev (by rw [List.length_reverse]; exact l) hp⟩
  · cases k
theorem se_rv {k : _} {p1 p2 p3 : Pos} (hK : X.K = c.K) (ha : SO X c W a oa) : SE X c W (.Subscript a (.Slice none none (some (.UnaryOp .USub (.Constant (.int 1) k p1) p2)) p3) pos) (eP1 rv oa) :=
  PE.weak (pe_revL ha) fun σ H Q q => one_k (r := rRevX X.K) (by rw [hK]; exact k_rv) q

/-! ### built-ins -/
def rLenAll (K : PySem.W.Frag) : List V → Hp → VK → Prop := fun xs H Q => (∃ x n, xs = [x] ∧ LenV K x H n ∧ Q (.int n) H) ∨ ∃ a kvs, xs = [V.ref a] ∧ Rd H a (.dK kvs) ∧ Q (.int kvs.length) H
theorem call_lenRd : CallR X (.builtin "len") (fun xs H Q => ∃ a kvs, xs = [V.ref a] ∧ Rd H a (.dK kvs) ∧ Q (.int kvs.length) H) := by
  rintro pins s σ H xs us Q I r ⟨d, kvs, rfl, hd, q⟩
  rw [Vals.ref1 r]
  exact d_len I hd fun t s' J => ⟨.int kvs.length, H, J, ⟨t, rfl⟩, q⟩
theorem call_lenAll : CallR X (.builtin "len") (rLenAll X.K) := call_len.or call_lenRd
theorem k_len : K1 c (fun v => rLenAll c.K [v]) fLen := by
  intro v z x H F Q A g r k q
  cases v <;> first | (cases k; done) | skip
  · cases k
    obtain ⟨rfl, s1⟩ := r
    unfold sOk at s1
    rw [Bool.and_eq_true, decide_eq_true_eq] at s1
    exact .inl ⟨_, _, rfl, ⟨s1.1, rfl⟩, q.now g rfl⟩
  · cases k
    obtain ⟨p, vs, rfl, q1, l, rs⟩ := r.tupR
    exact .inl ⟨_, _, rfl, .inr ⟨_, q1, rfl⟩, q.now g (by rw [rs.len]; rfl)⟩
  · cases k
    obtain ⟨p, vs, b, rfl, q1, l, _, rs⟩ := r.lstR
    exact .inl ⟨_, _, rfl, .inl ⟨_, .inl q1, rfl⟩, q.now g (by rw [rs.len]; rfl)⟩
  · cases k
    obtain ⟨p, vs, b, rfl, q1, l, l2, _, rs⟩ := r.dctR
    exact .inr ⟨_, _, rfl, q1, q.now g (by rw [List.length_zip, rs.len, l, Nat.min_self]; rfl)⟩
theorem k_abs : K1 c (fun v => (fun xs H Q => ∃ i, xs = [.int i] ∧ Q (.int (if i < 0 then -i else i)) H : List V → Hp → VK → Prop) [v]) fAbs := by
  intro v z x H F Q A g r k q
  cases v <;> cases k
  cases (show x = _ from r)
  exact ⟨_, rfl, q.now g rfl⟩
theorem k_int : K1 c (fun v => (fun xs H Q => (∃ i, xs = [.int i] ∧ Q (.int i) H) ∨ ∃ k, xs = [.bl k] ∧ Q (.int (if k then 1 else 0)) H : List V → Hp → VK → Prop) [v]) fInt := by
  intro v z x H F Q A g r k q
  cases v <;> cases k
  · cases (show x = _ from r)
    rename_i b
    exact .inr ⟨b, rfl, q.now g (by cases b <;> rfl)⟩
  · cases (show x = _ from r)
    exact .inl ⟨_, rfl, q.now g rfl⟩
theorem k_max2 : K2 c (fun v w => (fun xs H Q => ∃ i j, xs = [.int i, .int j] ∧ Q (.int (if j > i then j else i)) H : List V → Hp → VK → Prop) [v, w]) fMax2 := by
  intro v w z x y H F Q A B g r1 r2 k q
  cases v <;> cases w <;> cases k
  cases (show x = _ from r1); cases (show y = _ from r2)
  exact ⟨_, _, rfl, q.now g rfl⟩
theorem k_min2 : K2 c (fun v w => (fun xs H Q => ∃ i j, xs = [.int i, .int j] ∧ Q (.int (if j < i then j else i)) H : List V → Hp → VK → Prop) [v, w]) fMin2 := by
  intro v w z x y H F Q A B g r1 r2 k q
  cases v <;> cases w <;> cases k
  cases (show x = _ from r1); cases (show y = _ from r2)
  exact ⟨_, _, rfl, q.now g rfl⟩
theorem k_list : K1 c (fun v => (fun xs H Q => ∃ p ys, xs = [.ref p] ∧ (SqL c.K H p ys ∨ SqT c.K H p ys) ∧ ∀ l, H l = none → Q (.ref l) (upd H l (.lst ys)) : List V → Hp → VK → Prop) [v]) fList := by
  intro v z x H F Q A g r k q
  cases v <;> first | (cases k; done) | skip
  · obtain ⟨p, vs, rfl, q1, l, rs⟩ := r.tupR
    simp only [fList] at k
    split at k
    · rename_i f
      cases k
      exact ⟨p, vs, rfl, .inr q1, fun pp hp => q.lst g (rs.emp f) l hp⟩
    · cases k
  · obtain ⟨p, vs, b, rfl, q1, l, _, rs⟩ := r.lstR
    simp only [fList] at k
    split at k
    · rename_i f
      cases k
      exact ⟨p, vs, rfl, .inl (.inl q1), fun pp hp => q.lst g (rs.emp f) l hp⟩
    · cases k
theorem k_tuple : K1 c (fun v => (fun xs H Q => ∃ p ys, xs = [.ref p] ∧ ((SqL c.K H p ys ∧ ∀ l o, H l = none → TB o → Q (.ref l) (upd H l (.frz o (.tup ys)))) ∨ (SqT c.K H p ys ∧ Q (.ref p) H)) : List V → Hp → VK → Prop) [v]) fTuple := by
  intro v z x H F Q A g r k q
  cases v <;> first | (cases k; done) | skip
  · obtain ⟨p, vs, rfl, q1, l, rs⟩ := r.tupB
    simp only [fTuple] at k
    split at k
    · rename_i f
      cases k
      exact ⟨p, vs, rfl, .inr ⟨q1.sq, q.now g ⟨p, vs, rfl, ⟨q1, l⟩, rs.emp f⟩⟩⟩
    · cases k
  · obtain ⟨p, vs, b, rfl, q1, l, _, rs⟩ := r.lstR
    simp only [fTuple] at k
    split at k
    · rename_i f
      cases k
      exact ⟨p, vs, rfl, .inl ⟨.inl q1, fun pp o hp hb => q.tup g (rs.emp f) l hp hb⟩⟩
    · cases k
theorem k_all : K1 c (fun v => rAll c.K [v]) fAll := by
  intro v z x H F Q A g r k q
  cases v <;> first | (cases k; done) | skip
  obtain ⟨p, vs, b, rfl, q1, l, _, rs⟩ := r.lstR
  simp only [fAll] at k
  rename_i w xs _
  cases e : bls xs with
  | none => rw [e] at k; cases k
  | some bs =>
    rw [e] at k; cases k
    exact ⟨p, bs, rfl, by rw [← rs.bls e]; exact .inl q1, q.now g rfl⟩
theorem k_any : K1 c (fun v => rAny c.K [v]) fAny := by
  intro v z x H F Q A g r k q
  cases v <;> first | (cases k; done) | skip
  obtain ⟨p, vs, b, rfl, q1, l, _, rs⟩ := r.lstR
  simp only [fAny] at k
  rename_i w xs _
  cases e : bls xs with
  | none => rw [e] at k; cases k
  | some bs =>
    rw [e] at k; cases k
    exact ⟨p, bs, rfl, by rw [← rs.bls e]; exact .inl q1, q.now g rfl⟩
theorem foldl_max (xs : List Int) : ∀ a : Int, (xs.foldl max a ∈ a :: xs) ∧ ∀ y ∈ a :: xs, y ≤ xs.foldl max a := by
  induction xs with
  | nil => intro a; simp
  | cons x xs ih =>
    intro a
    obtain ⟨h1, h2⟩ := ih (max a x)
    rw [List.foldl_cons]
    refine ⟨?_, fun y hy => ?_⟩
    · rcases List.mem_cons.mp h1 with e | e
      · rw [e]
        rcases Int.le_total a x with h | h
        · rw [Int.max_eq_right h]; simp
        · rw [Int.max_eq_left h]; simp
      · exact List.mem_cons_of_mem _ (List.mem_cons_of_mem _ e)
    · have hm := h2 (max a x) List.mem_cons_self
      rcases List.mem_cons.mp hy with rfl | hy
      · exact Int.le_trans (Int.le_max_left _ _) hm
      · rcases List.mem_cons.mp hy with rfl | hy
        · exact Int.le_trans (Int.le_max_right _ _) hm
        · exact h2 y (List.mem_cons_of_mem _ hy)
theorem k_max : K1 c (fun v => rMax c.K [v]) fMax := by
  intro v z x H F Q A g r k q
  cases v <;> first | (cases k; done) | skip
  obtain ⟨p, vs, b, rfl, q1, l, _, rs⟩ := r.lstR
  simp only [fMax] at k
  rename_i w xs _
  cases e : Tr.allI xs with
  | none => rw [e] at k; cases k
  | some is =>
    rw [e, Option.bind_some] at k
    cases is with
    | nil => cases k
    | cons i is =>
      cases k
      obtain ⟨h1, h2⟩ := foldl_max is i
      refine ⟨p, i :: is, rfl, by rw [← rs.ints e]; exact .inl q1, Nat.succ_pos _, fun m hm h => ?_⟩
      have em : m = is.foldl max i := Int.le_antisymm (h2 m hm) (h _ h1)
      rw [em]
      exact q.now g rfl
/-- sep.join(xs) -/
def rJoinX (K : PySem.W.Frag) : V → List V → Hp → VK → Prop := fun x xs H Q => ∃ a p, ∃ ys : List Str, x = .str a ∧ xs = [.ref p] ∧ (SqL K H p (ys.map V.str) ∨ SqT K H p (ys.map V.str)) ∧
      (ys.map (·.length)).sum + ys.length * a.length ≤ 16777216 ∧ Q (.str (Txt.join a ys)) H
theorem join_ok (a : Str) (ha : sOk a = true) : ∀ ys : List Str, (∀ z ∈ ys, sOk z = true) → ∀ y ∈ (Str.join a ys).cps.toList, y < 0x110000 := by
  have ok : ∀ z : Str, sOk z = true → ∀ y ∈ z.cps.toList, y < 0x110000 := by
    intro z h y hy
    unfold sOk at h
    rw [Bool.and_eq_true] at h
    have s2 := h.2
    rw [← Array.all_toList, List.all_eq_true] at s2
    simpa using s2 y hy
  intro ys
  induction ys with
  | nil => intro _ y hy; cases hy
  | cons x xs ih =>
    intro h y hy
    cases xs with
    | nil => exact ok x (h x List.mem_cons_self) y hy
    | cons x2 xs =>
      have e : (Str.join a (x :: x2 :: xs)).cps.toList = x.cps.toList ++ a.cps.toList ++ (Str.join a (x2 :: xs)).cps.toList := by
        show ((x ++ a) ++ Str.join a (x2 :: xs)).cps.toList = _
        show ((x.cps ++ a.cps) ++ (Str.join a (x2 :: xs)).cps).toList = _
        simp
      rw [e] at hy
      rcases List.mem_append.mp hy with hy | hy
      · rcases List.mem_append.mp hy with hy | hy
        · exact ok x (h x List.mem_cons_self) y hy
        · exact ok a ha y hy
      · exact ih (fun z hz => h z (List.mem_cons_of_mem _ hz)) y hy
theorem k_join {v w z : PV} {x y : V} {H : Hp} {F A B : AS} {Q : VK} (g : Good H F Emp) (r1 : R c H F v x A) (r2 : R c H F w y B) (k : fJoin v w = some z) (q : Fin c H F z Q) : (∃ z, x = .str z) ∧ rJoinX c.K x [y] H Q := by
  have main : ∀ (a : Str) (xs : List PV) (ys : List Str) (p : Addr) (vs : List V) (B : AS), sOk a = true → (SqL c.K H p vs ∨ SqT c.K H p vs) → Rs c H F xs vs B → Tr.allS xs = some ys → (if (ys.map (·.length)).sum + ys.length * a.length ≤ big then some (PV.str (Str.join a ys)) else none) = some z → rJoinX c.K (.str a) [.ref p] H Q := by
    intro a xs ys p vs B ha hp rs e k
    split at k
    · rename_i hz
      cases k
      obtain ⟨h1, h2⟩ := rs.strs e
      rw [h1] at hp
      refine ⟨a, p, ys, rfl, rfl, hp, hz, ?_⟩
      have ej : Txt.join a ys = Str.join a ys := StrLaws.glued_eq_join a ys
      rw [ej]
      refine q.now g ⟨rfl, ?_⟩
      unfold sOk
      rw [Bool.and_eq_true]
      refine ⟨decide_eq_true (Nat.le_trans (StrLaws.join_length_le a ys) hz), ?_⟩
      rw [← Array.all_toList, List.all_eq_true]
      exact fun y hy => by simpa using join_ok a ha ys h2 y hy
    · cases k
  cases v <;> first | (cases k; done) | skip
  cases w <;> first | (cases k; done) | skip
  · obtain ⟨rfl, s1⟩ := r1
    obtain ⟨p, vs, rfl, q1, l, rs⟩ := r2.tupR
    refine ⟨⟨_, rfl⟩, ?_⟩
    simp only [fJoin] at k
    rename_i a xs
    cases e : Tr.allS xs with
    | none => rw [e] at k; cases k
    | some ys => rw [e, Option.bind_some] at k; exact main a xs ys p vs _ s1 (.inr q1) rs e k
  · obtain ⟨rfl, s1⟩ := r1
    obtain ⟨p, vs, b, rfl, q1, l, _, rs⟩ := r2.lstR
    refine ⟨⟨_, rfl⟩, ?_⟩
    simp only [fJoin] at k
    rename_i a w xs _
    cases e : Tr.allS xs with
    | none => rw [e] at k; cases k
    | some ys => rw [e, Option.bind_some] at k; exact main a xs ys p vs _ s1 (.inl (.inl q1)) rs e k
theorem se_join {z : Str} {j : _} {ap apos : Pos} (hK : X.K = c.K) (hz : sOk z = true) (hb : SO X c W b ob) (hs : starEach [b] X.env = [(false, eval b X.env)] := by rfl)
    (hbase : attributeBase (.Constant (.str z) j ap) "join" X.env (eval (.Constant (.str z) j ap) X.env) = eval (.Constant (.str z) j ap) X.env := by rfl) (hline : (apos.endLine == pos.line) = true := by rfl) :
    SE X c W (.Call (.Attribute (.Constant (.str z) j ap) "join" apos) [b] [] pos) (eP1 (fJoin (.str z)) ob) := by
  refine PE.weak (pe_join pe_str hb hs hbase hline) fun σ H Q q => ?_
  refine ⟨⟨_, rfl⟩, ?_⟩
  refine tO.one q fun v x y ρ1 H1 F1 A1 bb g sb e ⟨_, _, r1⟩ kk p => ?_
  have := (k_join (v := .str z) (x := .str z) (A := Emp) (g.sub Sub.emp) ⟨rfl, hz⟩ r1 kk (p.fin g sb e)).2
  unfold rJoinX at this
  rw [hK]
  exact this

/-! ### kinds -/
def tyN : Ty → String
  | .int => "int" | .bool => "bool" | .str => "str" | .list => "list" | .tuple => "tuple" | .dict => "dict"
def tyP : PV → Option String
  | .non => some "NoneType" | .bl _ => some "bool" | .int _ => some "int" | .str _ => some "str" | .tup _ => some "tuple" | .lst .. => some "list" | .dct .. => some "dict"
  | _ => none
theorem tyx_of {v : PV} {x : V} {H : Hp} {F A : AS} {n : String} (r : R c H F v x A) (h : tyP v = some n) : TyX c.K H x (.type n) := by
  cases v with
  | non => cases h; cases (show x = _ from r); exact .base .non
  | bl b => cases h; cases (show x = _ from r); exact .base (.bl b)
  | int i => cases h; cases (show x = _ from r); exact .base (.int i)
  | str z => cases h; obtain ⟨rfl, _⟩ := r; exact .base (.str z)
  | tup xs =>
    cases h
    obtain ⟨p, vs, rfl, q1, l, rs⟩ := r.tupR
    rcases q1 with (q1 | ⟨o, q1⟩) | ⟨o, its, n, q1, q2, _⟩
    · exact .base (.tup q1)
    · exact .fTuple q1
    · exact .kTuple q1 q2
  | lst w xs =>
    cases h
    obtain ⟨p, vs, b, rfl, q1, l, _, rs⟩ := r.lstR
    rcases q1 with q1 | ⟨o, q1⟩
    · exact .base (.lst q1)
    · exact .base (.frz q1)
  | dct w ks xs =>
    cases h
    obtain ⟨p, vs, b, rfl, q1, l, l2, _, rs⟩ := r.dctR
    rcases q1 with q1 | ⟨o, q1⟩
    · exact .base (.dK q1)
    · exact .fDict q1
  | ins _ _ _ => cases h
  | con _ => cases h
  | exc _ _ => cases h
/-- isinstance(x, T) -/
def rIsaX (K : PySem.W.Frag) (T : String) : V → Hp → VK → Prop := fun x H Q => ∃ (t : Value) (b : Bool), TyX K H x t ∧ PySem.W.kitOne K t (.type T) = some b ∧ Q (.bl b) H
theorem k_isa (T : Ty) : C1 c (rIsaX c.K (tyN T)) (isA T) := by
  intro v z x H F Q A g r k q
  cases e : tyP v with
  | none => cases v <;> first | (cases e; done) | (cases T <;> cases k)
  | some n =>
    refine ⟨.type n, z, tyx_of r e, kit_ty ?_, q⟩
    cases v <;> cases e <;> cases T <;> cases k <;> decide +kernel
variable {p p2 : Pos} {xT : Str} {T : Ty}
theorem se_isa (hK : X.K = c.K) (ha : SO X c W a oa) (hT : PE X (.Name xT p2) (tC (.ty (tyN T)))) (hg : Gl X "isinstance") (hm : X.mg "isinstance" = none)
    (st : starEach [a, .Name xT p2] X.env = (false, eval a X.env) :: starEach [.Name xT p2] X.env := by rfl) (st2 : starEach [.Name xT p2] X.env = (false, eval (.Name xT p2) X.env) :: starEach [] X.env := by rfl) (he : (backTo pos (starEach [.Name xT p2] X.env)).any (·.1) = false := by rfl) :
    SE X c W (.Call (.Name "isinstance" p) [a, .Name xT p2] [] pos) (eT (tPV (isA T) oa)) := by
  refine PE.weak (pe_callB call_isi hg hm (by decide +kernel) (pa_cons ha (pa_cons hT pa_nil st2) st) (by decide) (by decide) st he) fun σ H Q q => ?_
  refine tO.one (eT_bl q) fun v x y ρ1 H1 F1 A1 bb g sb e ⟨_, _, r1⟩ kk pp => ?_
  obtain ⟨t, b, h1, h2, h3⟩ := k_isa (c := c) T v y x H1 F1 Q _ (g.sub Sub.emp) r1 kk (pp.now g sb rfl e)
  exact ⟨x, _, t, _, b, rfl, .ty _, by rw [hK]; exact h1, by rw [hK]; exact h2, h3⟩
end
end Tr
set_option Elab.async false
set_option linter.all false
set_option maxRecDepth 100000
set_option maxHeartbeats 4000000
/-! Tr.G: a def's promise where no repr is under way (FnG): how it is shown, called, and met by the row's head. -/
namespace Tr
open PySem PySem.Spec PyProof.Rows L2

structure FnG (P : Program) (w : World) (K : PySem.W.Frag) (mg : Str → Option Value) (base : Heap) (CX : CXT) (k : Nat) (f : Addr) (fd : FuncData) (ps : List Str) (sp : Sp) : Prop where
  len : ∀ vs H Q E, sp vs H Q E → vs.length = ps.length
  run : ∀ (A : Around), A.guards = some [] → ∀ (outer : List PySem.Env) (s : Shared) (H : Hp) (args : Args) (us : List Value) (vs : List V) (Q : VK) (E : XK), Room k A → Env0 P w K mg base A outer s H → BindsTo s fd args (ps.zip us) → Vals vs us → sp vs H Q E →
    codeAny (model P w) A (.call (.ref f) args) (CR CX outer P w H s Q E) s
section
variable {P : Program} {w : World} {K : PySem.W.Frag} {mg : Str → Option Value} {base : Heap} {CX : CXT}
theorem FnG.of {k : Nat} {f : Addr} {fd : FuncData} {ps : List Str} {sp : Sp} (F : FnOk P w K mg base CX k f fd ps sp) : FnG P w K mg base CX k f fd ps sp := ⟨F.len, fun A _ => F.run A⟩
/-- a def of the text -/
theorem Fun.okG {x qual : Str} {st : Stmt} {f : Addr} {fd : FuncData} {N ps : List Str} {k : Nat} {sp : Sp} (F : Fun K x qual st f fd) (S : FnScope N ps (defScope st)) (len : ∀ vs H Q E, sp vs H Q E → vs.length = ps.length)
    (hb : ∀ (cdv : Value) (A : Around) (outer : List PySem.Env) (s : Shared) (H : Hp) (vs : List V) (Q : VK) (E : XK), A.guards = some [] → Room k (A.deeper (envOfC qual (defScope st) s.heap.objs.size f cdv)) → sp vs H Q E →
      ∃ t, PSs (cxOf (L2.CX P w) P w K mg base N qual (defScope st) f cdv A outer s H E) (defBody st) t ∧ t { nx := fun _ H' => Q .non H', rt := Q } (L2.start N vs) H) : FnG P w K mg base (L2.CX P w) (k + 1) f fd ps sp := by
  obtain ⟨oc, od, kV, doc, pm, an, cdv, ct, osl, rfl, lk, hcd⟩ := F.ex
  refine ⟨len, fun A gA outer s H args us vs Q E room env bind rel want => ?_⟩
  have n := len _ _ _ _ want
  have inK : K.In s.heap := env.mod.kin.keeps fun b o e => (env.bs b o e).1
  have nolim : s.heap.NoLimit := env.mod.nolimit.keeps fun b o e => (env.bs b o e).1
  have kinds : ∀ y ∈ ps.zip us, (defScope st).names.lookup y.1 = some .local ∨ ((defScope st).names.lookup y.1 = some .cell ∧ ((cellsFrom (s.heap.objs.size + 1) (defScope st).names []).lookup y.1).isSome = true) := fun y hy => (S.par y.1 (List.of_mem_zip (a := y.1) (b := y.2) hy).1).imp id fun q => ⟨q, PySem.W.cellsFrom_some _ _ _ (.inl q)⟩
  refine codeAny_call_function room.depth (inK _ _ lk) rfl S.co S.gen rfl (PySem.W.codeRec_of inK hcd) (bind _ _ _ _ (wpAny_newFunctionEnv_cells S.kind kinds fun env' e s1 x => ?_))
  subst e
  obtain ⟨t, ht, q⟩ := hb cdv A outer s H vs Q E gA (room.deeper _) want
  refine ⟨nolim.keeps x.toInCall.keep, codeAny_func (wpAny_mono (ht.run [] s1 (L2.start N vs) H _ (inv_start S room.hd env n rel x) q) (fun fl s' a => ?_) fun e s' a => a)⟩
  cases fl with
  | ret u => obtain ⟨v, σ', H', J, rv, q⟩ := a; exact ⟨v, H', J.os, J.bare, J.base, J.hok, rv, q⟩
  | next => obtain ⟨σ', H', J, q⟩ := a; exact ⟨V.non, H', J.os, J.bare, J.base, J.hok, rfl, q⟩
  | brk => obtain ⟨_, _, _, q⟩ := a; exact False.elim q
  | cont => obtain ⟨_, _, _, q⟩ := a; exact False.elim q
end
section
variable {X : Cx} {k : Nat} {f : Addr} {fd : FuncData} {ps : List Str} {sp : Sp} {dvs : List V} {ds : List Value} {E : L2.St → XK} {x : Str} {p pos : Pos} {e : Expr} {es : List Expr} {t : TA}
theorem run_G {E : XK} {pins : List (Addr × Obj)} {σ : L2.St} {H : Hp} {s : Shared} {Q : VK} {us : List Value} {vs : List V} {args : Args} (F : FnG X.prog X.w X.K X.mg X.base (L2.CX X.prog X.w) k f fd ps sp) (gA : X.A.guards = some []) (hr : Room k X.A)
    (hb : us.length = ps.length → BindsTo s fd args (ps.zip us)) (hx : PassesAt (L2.CX X.prog X.w) X σ E) (I : Inv X pins σ H s) (r : Vals vs us) (h : sp vs H Q E) : wpAny (model X.prog X.w) X.A (call (.ref f) args.pos args.kw) (EP X pins σ Q) X.xe s := by
  have hl : us.length = ps.length := by rw [← r.length]; exact F.len _ _ _ _ h
  refine wpAny_call (codeAny_mono (F.run X.A gA X.stack s H args us vs Q E hr I.env0 (hb hl) r h) fun r s' hq => ?_)
  cases r with
  | error e => exact hx pins H s e s' I hq
  | ok fl =>
    cases fl with
    | ret u => exact I.after hq
    | next => exact False.elim hq
    | brk => exact False.elim hq
    | cont => exact False.elim hq
/-- f(e, ..) -/
theorem pe_callG (F : FnG X.prog X.w X.K X.mg X.base (L2.CX X.prog X.w) k f fd ps sp) (gA : X.A.guards = some []) (hr : Room k X.A) (hg : Gl X x) (hm : X.mg x = some (.ref f)) (hk : PySem.W.keepIn X.K (.ref f) = true) (hb : Binds X.K fd ps ds) (hd : Vals dvs ds) (hx : ∀ σ, PassesAt (L2.CX X.prog X.w) X σ (E σ))
    (ha : PA X (e :: es) t) (hdb : (x == ("__debug__" : Str)) = false := by decide) (he : starEach (e :: es) X.env = (false, eval e X.env) :: starEach es X.env := by rfl) (hpl : (backTo pos (starEach es X.env)).any (·.1) = false := by rfl) :
    PE X (.Call (.Name x p) (e :: es) [] pos) (tCallSD sp dvs E t) :=
  ⟨fun pins s σ H Q I h => wpAny_Call_Name_kw (ld_glob I hg hm (PySem.W.callWith_K (h₀ := X.base) I.ok.mod.kin hk (thn (ha.run pos pins s σ H _ I h) fun us s1 ⟨vs, H1, I1, r, q⟩ =>
    ⟨I1.kIn, run_G (args := ⟨us, []⟩) (us := us ++ ds) F gA hr (fun hl => hb s1 us I1.kIn hl) (hx σ) I1 (r.append hd) q⟩) he hpl) hdb)⟩
theorem pe_callG0 (F : FnG X.prog X.w X.K X.mg X.base (L2.CX X.prog X.w) k f fd ps sp) (gA : X.A.guards = some []) (hr : Room k X.A) (hg : Gl X x) (hm : X.mg x = some (.ref f)) (hk : PySem.W.keepIn X.K (.ref f) = true) (hb : Binds X.K fd ps ds) (hd : Vals dvs ds) (hx : ∀ σ, PassesAt (L2.CX X.prog X.w) X σ (E σ))
    (hdb : (x == ("__debug__" : Str)) = false := by decide) :
    PE X (.Call (.Name x p) [] [] pos) (tCallSD sp dvs E tNil) :=
  ⟨fun pins s σ H Q I h => wpAny_Call_Name_kw (ld_glob I hg hm (PySem.W.callWith_K0 I.kIn hk (run_G (args := ⟨[], []⟩) (us := [] ++ ds) F gA hr (fun hl => hb s [] I.kIn hl) (hx σ) I hd h)) hdb)⟩
end
/-! ### the row's head -/
def isLst : Value → Bool
  | .type n => n == "list"
  | _ => false
/-- no list among the module's own objects -/
def noL (K : PySem.W.Frag) : Bool := K.all fun e => !isLst e.2.cls
theorem noL_of {K : PySem.W.Frag} (h : noL K = true) {a : Addr} {o : Obj} (e : K.lookup a = some o) (hc : o.cls = .type "list") : False := by
  have hm : (a, o) ∈ K := by
    induction K with
    | nil => cases e
    | cons x K ih =>
      obtain ⟨b, u⟩ := x
      rw [List.lookup_cons] at e
      split at e
      · rename_i q
        cases e
        rw [eq_of_beq q]
        exact List.mem_cons_self
      · refine List.mem_cons_of_mem _ (ih ?_ e)
        unfold noL at h ⊢
        rw [List.all_cons, Bool.and_eq_true] at h
        exact h.2
  have := List.all_eq_true.mp h _ hm
  rw [hc] at this
  simp [isLst] at this
theorem lawG {P : Program} {w : World} {K : PySem.W.Frag} {mg mb : Str → Option Value} {k : Nat} {fa a : Addr} {fd : FuncData} {x : Str} {sp : Sp} {s₁ : Shared} {vs : List Value} {ns : List Int}
    (hL : noL K = true) (KX : K.In s₁.heap) (hns : s₁.heap.Ns mainGlobals mg) (hb : s₁.heap.Ns builtinsNs mb) (hbb : ∀ x : Str, x ≠ "__name__" → mb x = bootBuiltins x) (hlim : s₁.heap.NoLimit) (hg : s₁.gens = #[])
    (ha : s₁.heap.get? a = some { cls := .type "list", data := .seq vs.toArray }) (hi : IntsAre vs ns) (hl : ns.length ≤ sizeLine) (hr : Room k callerA)
    (F : ∀ base : Heap, K.In base → base.Ns mainGlobals mg → FnG P w K mg base (L2.CX P w) k fa fd [x] sp) (hbind : ∀ (s : Shared) (u : Value), BindsTo s fd ⟨[u], []⟩ [(x, u)])
    (hsp : ∀ H : Hp, (∃ o, H a = some (.frz o (.lst (ns.map V.int)))) → sp [.ref a] H (fun v _ => v = .bl true) fun _ _ _ => False) :
    codeAny (model P w) callerA (.call (.ref fa) ⟨[.ref a], []⟩) (fun r s' => r = .ok (.ret (.bool true)) ∧ OldK s₁.heap s'.heap ∧ s'.os = s₁.os ∧ AllBare s'.gens) s₁ := by
  have rv := vals_ints hi
  have hK : ∀ o, K.lookup a = some o → False := fun o e => by
    have := KX a o e
    rw [ha] at this; cases this
    exact noL_of hL e rfl
  obtain ⟨H, hH⟩ : ∃ H : Hp, H = fun b => if b = a then some (.frz { cls := .type "list", data := .seq vs.toArray } (.lst (ns.map V.int))) else none := ⟨_, rfl⟩
  have at_ : H a = some (.frz { cls := .type "list", data := .seq vs.toArray } (.lst (ns.map V.int))) := by rw [hH]; exact if_pos rfl
  have off : ∀ b, b ≠ a → H b = none := fun b n => by rw [hH]; exact if_neg n
  have baseG : ∀ {b : Addr} {o : Obj}, s₁.heap.get? b = some o → b ≠ a → (hidT s₁.heap H).get? b = some o := fun e n => hidT_get e (off _ n)
  have ns1 : ∀ {b : Addr} {m : Str → Option Value}, s₁.heap.Ns b m → (hidT s₁.heap H).Ns b m := fun {b m} ⟨o, es, ep, e, d, r⟩ => ⟨o, es, ep, baseG e (fun q => by
    subst q
    rw [ha] at e; cases e
    cases d), d, r⟩
  have inB : K.In (hidT s₁.heap H) := fun b o e => baseG (KX b o e) fun q => hK o (q ▸ e)
  have hok : HOk P w H s₁.heap := fun b u z => by
    by_cases q : b = a
    · subst q
      rw [at_] at z; cases z
      exact ⟨ha, by rw [List.length_map]; exact hl, vs, _, rv, ha⟩
    · rw [off b q] at z; cases z
  have hM : Mod K mg (hidT s₁.heap H) := ⟨inB, ns1 hns, ⟨mb, ns1 hb, hbb⟩, let ⟨mc, h1, h2⟩ := hlim; ⟨mc, ns1 h1, h2⟩⟩
  have e0 : Env0 P w K mg (hidT s₁.heap H) callerA [] s₁ H := ⟨rfl, hM, fun b o e => of_hidT e, Nat.le_of_eq (hidT_size _ _), trivial, fun b hb => absurd (show b ∈ ([] : List Addr) from hb) (by simp), hok, .of_eq hg⟩
  refine codeAny_mono ((F _ inB (ns1 hns)).run callerA rfl [] s₁ H ⟨[.ref a], []⟩ [.ref a] [.ref a] _ _ hr e0 (hbind s₁ (.ref a)) (.cons rfl .nil) (hsp H ⟨_, at_⟩)) fun r s' h => ?_
  cases r with
  | error e => obtain ⟨_, _, _, _, _, _, _, _, _, _, _, _, h⟩ := h; exact h.elim
  | ok fl =>
    cases fl with
    | next => exact False.elim h
    | brk => exact False.elim h
    | cont => exact False.elim h
    | ret u =>
      obtain ⟨v, H', os, bare, un, hok', r', q⟩ := h
      obtain rfl : v = .bl true := q
      obtain rfl : u = Value.bool true := r'
      refine ⟨rfl, OldK.of_keep fun b o e => ?_, os, bare⟩
      by_cases q : b = a
      · subst q
        obtain ⟨e2, _⟩ := hok' b _ (un.frzs b _ _ at_)
        rw [ha] at e; cases e
        exact e2
      · exact un.keep b o e (off b q) (by intro z; exact absurd (show b ∈ ([] : List Addr) from z) (by simp)) (by simp)
/-- THE END: the law's function on trees gives True of every script -/
theorem walkG {l : PySem.W.OpenLaw} {n k : Nat} {q : Program} {loose : List Str} {XP : (Str → Option Value) → Heap → Prop} {YP : World → Heap → Prop} {d : DefRec} {K : Params → PySem.W.Frag} {sp : PySem.W.Frag → Sp} {x : Str}
    (hn : l.most = some n) (hn2 : n ≤ sizeLine) (hdf : d.params.defaults = []) (hr : Room k callerA)
    (hY : ∀ (w : World) (h : Heap), YP w h → (K w.params).In h) (hL : ∀ w : World, noL (K w.params) = true)
    (F : ∀ (w : World) (s₀ : Shared) (mg mb : Str → Option Value) (fa : Addr) (h : Heap), PySem.W.Ground q loose [] XP w s₀ mg mb h → (K w.params).In h → mg d.name = some (.ref fa) →
      ∃ fd : FuncData, (∀ (s : Shared) (u : Value), BindsTo s fd ⟨[u], []⟩ [(x, u)]) ∧
        ∀ base : Heap, (K w.params).In base → base.Ns mainGlobals mg → FnG l.prog w (K w.params) mg base (L2.CX l.prog w) k fa fd [x] (sp (K w.params)))
    (hsp : ∀ (w : World) (H : Hp) (a : Addr) (ns : List Int), ns.length ≤ n → (∀ z ∈ ns, Builtin.Int.intBits z ≤ 1048576) → (∃ o, H a = some (.frz o (.lst (ns.map V.int)))) → sp (K w.params) [.ref a] H (fun v _ => v = .bl true) fun _ _ _ => False) :
    PySem.W.WalkO q loose XP YP l.row.toRowW d [] (fun f vs => PySem.call f vs) := by
  refine Att.attach_callB hn hdf fun w s₀ s₁ mg mb fa o pm cd doc a vs ns G Y ho hd hcd hmg hobj hints hlen hbits hg => ?_
  have KX := hY w _ Y
  obtain ⟨fd, hb, hF⟩ := F w s₀ mg mb fa _ G KX hmg
  exact lawG (hL w) KX G.T.g G.T.b G.T.builtins G.T.nolimit hg hobj hints (Nat.le_trans hlen hn2) hr hF hb fun H hO => hsp w H a ns hlen hbits hO
end Tr
set_option Elab.async false
set_option linter.all false
set_option maxRecDepth 100000
set_option maxHeartbeats 4000000
/-! Tr.S: statements, defs, calls. -/
namespace Tr
open PySem PySem.Spec L2

/-- the slots that are never stored to are as they were -/
structure Keep (fx : Nat → Bool) (σ σ' : L2.St) : Prop where
  at_ : ∀ i, fx i = true → σ'[i]? = σ[i]?
  len : σ'.length = σ.length
theorem Keep.refl {fx : Nat → Bool} {σ : L2.St} : Keep fx σ σ := ⟨fun _ _ => rfl, rfl⟩
theorem Keep.trans {fx : Nat → Bool} {σ σ1 σ2 : L2.St} (h : Keep fx σ σ1) (k : Keep fx σ1 σ2) : Keep fx σ σ2 := ⟨fun i z => (k.at_ i z).trans (h.at_ i z), k.len.trans h.len⟩
theorem Keep.set {fx : Nat → Bool} {σ : L2.St} {i : Nat} {o : Option V} (h : fx i = false) : Keep fx σ (σ.set i o) := ⟨fun j z => by
  have : i ≠ j := fun e => by rw [e, z] at h; cases h
  exact List.getElem?_set_ne this, List.length_set⟩

section
variable (c : RC) (W : WX) (fx : Nat → Bool)
def PostS (σ : L2.St) (H : Hp) (F A : AS) (r : SR) (D : Ends) : Prop := match r with
  | .nx ρ' => ∀ σ' H' F' b, Stp H F A H' F' b → Good H' F' b → RE c H' F' ρ' σ' b → Keep fx σ σ' → D.nx σ' H'
  | .bk ρ' => ∀ σ' H' F' b, Stp H F A H' F' b → Good H' F' b → RE c H' F' ρ' σ' b → Keep fx σ σ' → D.bk σ' H'
  | .ct ρ' => ∀ σ' H' F' b, Stp H F A H' F' b → Good H' F' b → RE c H' F' ρ' σ' b → Keep fx σ σ' → D.ct σ' H'
  | .rt v ρ' => ∀ x σ' H' F' a b, Stp H F A H' F' (Uni a b) → Good H' F' (Uni a b) → Dis a b → R c H' F' v x a → RE c H' F' ρ' σ' b → Keep fx σ σ' → D.rt x H'
  | .er e ρ' => ∀ cls d σ' H' F' b, Stp H F A H' F' b → Good H' F' b → RX c H' F' e cls d → RE c H' F' ρ' σ' b → Keep fx σ σ' → W cls d σ' H'
  | .bad => False
def tS (f : SF) : TS := fun D σ H => ∃ ρ F A, Good H F A ∧ RE c H F ρ σ A ∧ PostS c W fx σ H F A (f ρ) D
def SS (X : Cx) (st : Stmt) (f : SF) : Prop := PS X st (tS c W fx f)
def SSs (X : Cx) (sts : List Stmt) (f : SF) : Prop := PSs X sts (tS c W fx f)
end
section
variable {c : RC} {W : WX} {fx : Nat → Bool} {σ σ1 : L2.St} {H H1 : Hp} {F A F1 A1 b : AS} {D : Ends}
theorem PostS.base {r : SR} (h : PostS c W fx σ H F A r D) (s : Stp H F A H1 F1 A1) (k : Keep fx σ σ1) : PostS c W fx σ1 H1 F1 A1 r D := by
  cases r with
  | nx ρ' => exact fun σ' H' F' b t g e q => h σ' H' F' b (s.trans t) g e (k.trans q)
  | bk ρ' => exact fun σ' H' F' b t g e q => h σ' H' F' b (s.trans t) g e (k.trans q)
  | ct ρ' => exact fun σ' H' F' b t g e q => h σ' H' F' b (s.trans t) g e (k.trans q)
  | rt v ρ' => exact fun x σ' H' F' a b t g d r e q => h x σ' H' F' a b (s.trans t) g d r e (k.trans q)
  | er x ρ' => exact fun cls d σ' H' F' b t g r e q => h cls d σ' H' F' b (s.trans t) g r e (k.trans q)
  | bad => exact h
theorem PostS.sub {r : SR} (h : PostS c W fx σ H F A r D) (s : Sub A1 A) : PostS c W fx σ H F A1 r D := by
  cases r with
  | nx ρ' => exact fun σ' H' F' b t g e q => h σ' H' F' b (t.more s) g e q
  | bk ρ' => exact fun σ' H' F' b t g e q => h σ' H' F' b (t.more s) g e q
  | ct ρ' => exact fun σ' H' F' b t g e q => h σ' H' F' b (t.more s) g e q
  | rt v ρ' => exact fun x σ' H' F' a b t g d r e q => h x σ' H' F' a b (t.more s) g d r e q
  | er x ρ' => exact fun cls d σ' H' F' b t g r e q => h cls d σ' H' F' b (t.more s) g r e q
  | bad => exact h
/-- an expression (a test, arguments), and what follows of its value -/
theorem tS.expr {α ν : Type} {rel : Hp → AS → α → ν → AS → Prop} {f : Env → Res α} {k : α → Env → SR} {K : ν → Hp → Prop} (h : tS c W fx (fun ρ => sOf (f ρ) k) D σ H)
    (hk : ∀ v x ρ1 H1 F1 a b, Good H1 F1 (Uni a b) → Dis a b → rel H1 F1 v x a → RE c H1 F1 ρ1 σ b → PostS c W fx σ H1 F1 (Uni a b) (k v ρ1) D → K x H1) : tG c W rel f σ H K := by
  obtain ⟨ρ, F, A, g, e, p⟩ := h
  refine ⟨ρ, F, A, g, e, ?_⟩
  cases q : f ρ with
  | ok v ρ1 =>
    simp only [q] at p
    intro x H1 F1 a b s g1 d r e1
    exact hk v x ρ1 H1 F1 a b g1 d r e1 (p.base s Keep.refl)
  | er x ρ1 =>
    simp only [q] at p
    intro cls d H1 F1 b s g1 r e1
    exact p cls d σ H1 F1 b s g1 r e1 Keep.refl
  | bad => simp only [q] at p; exact p.elim
theorem PostS.nxt {ρ : Env} (p : PostS c W fx σ H F A (.nx ρ) D) (g : Good H F A) (sb : Sub b A) (e : RE c H F ρ σ1 b) (k : Keep fx σ σ1) : D.nx σ1 H :=
  p σ1 H F b (Stp.refl.drop sb) (g.sub sb) e k
theorem RE.storeAny {ρ : Env} {a b : AS} {i : Nat} {x : PV} {v : V} (e : RE c H F ρ σ b) (r : R c H F x v a) (d : Dis a b) : RE c H F (ρ.set i (some x)) (σ.set i (some v)) (Uni a b) := by
  rcases Nat.lt_or_ge i ρ.length with l | l
  · exact e.store l r d
  · rw [List.set_eq_of_length_le l, List.set_eq_of_length_le (by rw [e.len]; exact l)]
    exact e.mono Sub.r
end

section
variable {X : Cx} {c : RC} {W : WX} {fx : Nat → Bool} {st : Stmt} {sts : List Stmt} {s u : SF} {e : Expr} {f : EF} {t : TF} {pos : Pos}
theorem ss_nil : SSs c W fx X [] sNx := by
  refine PSs.weak pss_nil fun D σ H q => ?_
  obtain ⟨ρ, F, A, g, e, p⟩ := q
  exact p.nxt g (Sub.refl _) e Keep.refl
theorem ss_cons (h : SS c W fx X st s) (hs : SSs c W fx X sts u) : SSs c W fx X (st :: sts) (sSeq s u) := by
  refine PSs.weak (pss_cons h hs) fun D σ H q => ?_
  obtain ⟨ρ, F, A, g, e, p⟩ := q
  refine ⟨ρ, F, A, g, e, ?_⟩
  unfold sSeq at p
  cases q : s ρ with
  | nx ρ1 =>
    simp only [q] at p
    exact fun σ1 H1 F1 b t g1 e1 k => ⟨ρ1, F1, b, g1, e1, p.base t k⟩
  | bk ρ1 => simp only [q] at p; exact p
  | ct ρ1 => simp only [q] at p; exact p
  | rt v ρ1 => simp only [q] at p; exact p
  | er v ρ1 => simp only [q] at p; exact p
  | bad => simp only [q] at p; exact p.elim
theorem ss_one (h : SS c W fx X st s) : SSs c W fx X [st] s := pss_one h
theorem ss_pass : SS c W fx X (.Pass pos) sNx := PS.weak ps_pass fun D σ H ⟨ρ, F, A, g, e, p⟩ => p.nxt g (Sub.refl _) e Keep.refl
theorem ss_brk : SS c W fx X (.Break pos) sBk := PS.weak ps_break fun D σ H ⟨ρ, F, A, g, e, p⟩ => p σ H F A Stp.refl g e Keep.refl
theorem ss_cnt : SS c W fx X (.Continue pos) sCt := PS.weak ps_continue fun D σ H ⟨ρ, F, A, g, e, p⟩ => p σ H F A Stp.refl g e Keep.refl
theorem ss_do (h : SE X c W e f) (hs : swapsWith e none pos.line X.env = pure false := by rfl) : SS c W fx X (.Expr e pos) (sDo f) := by
  refine PS.weak (ps_expr h hs) fun D σ H q => ?_
  exact tS.expr (rel := relE c) q fun v x ρ1 H1 F1 a b g d r e p => p.nxt g Sub.r e Keep.refl
theorem ss_ret (h : SE X c W e f) : SS c W fx X (.Return (some e) pos) (sRet f) := by
  refine PS.weak (ps_ret h) fun D σ H q => ?_
  exact tS.expr (rel := relE c) q fun v x ρ1 H1 F1 a b g d r e p => p x σ H1 F1 a b Stp.refl g d r e Keep.refl
theorem ss_retN : SS c W fx X (.Return none pos) sRetN := by
  refine PS.weak ps_retN fun D σ H q => ?_
  obtain ⟨ρ, F, A, g, e, p⟩ := q
  exact p .non σ H F Emp A (Stp.refl.drop (Sub.uni Sub.emp (Sub.refl _))) (g.sub (Sub.uni Sub.emp (Sub.refl _))) Dis.empl rfl e Keep.refl
theorem ss_if {a b : List Stmt} (hc : ST X c W e t) (ha : SSs c W fx X a s) (hb : SSs c W fx X b u) : SS c W fx X (.If e a b pos) (sIf t s u) := by
  refine PS.weak (ps_if hc ha hb) fun D σ H q => ?_
  refine tS.expr (rel := relB) q fun v x ρ1 H1 F1 a b g d r e p => ?_
  cases (show x = v from r)
  cases v with
  | true => rw [if_pos rfl]; rw [if_pos rfl] at p; exact ⟨ρ1, F1, _, g.sub Sub.r, e, p.sub Sub.r⟩
  | false => rw [if_neg Bool.false_ne_true]; rw [if_neg Bool.false_ne_true] at p; exact ⟨ρ1, F1, _, g.sub Sub.r, e, p.sub Sub.r⟩
theorem ss_set {i : Nat} {x : Str} {pos' : Pos} (hN : X.N.Nodup) (hi : X.N[i]? = some x) (hx : Loc X.env.scope x) (hf : fx i = false) (h : SE X c W e f) (hs : swapsWith e (some (.Name x pos')) pos.line X.env = pure false := by rfl)
    (hff : X.fn x = true ∨ X.env.scope.names.lookup x = some .local := by first | exact .inl rfl | exact .inr rfl | assumption) : SS c W fx X (.Assign [.Name x pos'] e pos) (sSet i f) := by
  refine PS.weak (ps_set hN hi hx h hs hff) fun D σ H q => ?_
  refine tS.expr (rel := relE c) q fun v y ρ1 H1 F1 a b g d r e p => ?_
  exact p.nxt g (Sub.refl _) (e.storeAny r d) (Keep.set hf)
/-- what is never reached -/
def sBad : SF := fun _ => .bad
theorem ss_never : SS c W fx X st sBad := PS.weak ps_never fun D σ H ⟨_, _, _, _, _, p⟩ => p
theorem sss_never : SSs c W fx X sts sBad := PSs.weak pss_never fun D σ H ⟨_, _, _, _, _, p⟩ => p
end

/-! ### a def -/
/-- its promise -/
def spF (c : RC) (n : Nat) (sem : FF) : Sp := fun xs H Q E => xs.length = n ∧ ∃ vs F A, Good H F A ∧ Rs c H F vs xs A ∧ match sem vs with
  | .ok v vs' => ∀ x H' F' a b, Stp H F A H' F' (Uni a b) → Good H' F' (Uni a b) → Dis a b → R c H' F' v x a → Rs c H' F' vs' xs b → Q x H'
  | .er e vs' => ∀ cls d H' F' b, Stp H F A H' F' b → Good H' F' b → RX c H' F' e cls d → Rs c H' F' vs' xs b → E cls d H'
  | .bad => False
section
variable {P : Program} {w : World} {K : PySem.W.Frag} {mg : Str → Option Value} {base : Heap} {c : RC}
/-- the parameters that are stored to -/
def fxOf (fx : List Bool) : Nat → Bool := fun i => fx.getD i false
/-- what the arguments are at the end -/
theorem outs_ok {H H0 : Hp} {F F0 b : AS} : ∀ {fx : List Bool} {as as' : List PV} {xs : List V} {ρ : Env} {σ : L2.St} {A1 : AS}, outs fx as ρ = some as' → RE c H F ρ σ b → (∀ i, fx.getD i false = true → σ[i]? = (xs.map some)[i]?) → Rs c H0 F0 as xs A1 → xs.length = fx.length →
    (∀ (v : PV) (x : V), R c H0 F0 v x Emp → R c H F v x Emp) → Rs c H F as' xs b
  | [], [], as', xs, ρ, σ, A1, h, e, k, r, l, up => by cases h; exact (List.eq_nil_of_length_eq_zero l)
  | true :: fx, a :: as, as', xs, some v :: ρ, σ, A1, h, e, k, r, l, up => by
    rw [outs] at h
    cases q : outs fx as ρ with
    | none => rw [q] at h; cases h
    | some ws =>
      rw [q] at h; cases h
      obtain ⟨x, xs', b1, d1, ex, s1, s2, dd, ra, rs⟩ := r
      subst ex
      obtain ⟨y, σ', b2, d2, es, t1, t2, dd2, rv, re⟩ := e
      subst es
      have e0 := k 0 rfl
      simp at e0
      subst e0
      exact ⟨y, xs', b2, d2, rfl, t1, t2, dd2, rv, outs_ok q re (fun i z => by simpa using k (i + 1) (by simpa using z)) rs (by simpa using l) up⟩
  | false :: fx, a :: as, as', xs, o :: ρ, σ, A1, h, e, k, r, l, up => by
    rw [outs] at h
    split at h
    · rename_i f
      cases q : outs fx as ρ with
      | none => rw [q] at h; cases h
      | some ws =>
        rw [q] at h; cases h
        obtain ⟨x, xs', b1, d1, ex, s1, s2, dd, ra, rs⟩ := r
        subst ex
        have tail : ∃ y σ' d2, σ = y :: σ' ∧ Sub d2 b ∧ RE c H F ρ σ' d2 := by
          cases o with
          | none => obtain ⟨y, σ', es, re⟩ := e; exact ⟨y, σ', b, es, Sub.refl _, re⟩
          | some v => obtain ⟨y, σ', b2, d2, es, t1, t2, dd2, rv, re⟩ := e; exact ⟨some y, σ', d2, es, t2, re⟩
        obtain ⟨y, σ', d2, es, t2, re⟩ := tail
        subst es
        exact ⟨x, xs', Emp, d2, rfl, Sub.emp, t2, Dis.empl, up _ _ (R.emp ra f), outs_ok q re (fun i z => by simpa using k (i + 1) (by simpa using z)) rs (by simpa using l) up⟩
    · cases h
  | true :: fx, a :: as, as', xs, none :: ρ, σ, A1, h, e, k, r, l, up => by rw [outs] at h; cases h; all_goals simp
  | [], a :: as, as', xs, ρ, σ, A1, h, e, k, r, l, up => by cases ρ <;> (rw [outs] at h; cases h; all_goals simp)
  | true :: fx, [], as', xs, ρ, σ, A1, h, e, k, r, l, up => by cases ρ <;> (rw [outs] at h; cases h; all_goals simp)
  | false :: fx, [], as', xs, ρ, σ, A1, h, e, k, r, l, up => by cases ρ <;> (rw [outs] at h; cases h; all_goals simp)
  | true :: fx, a :: as, as', xs, [], σ, A1, h, e, k, r, l, up => by rw [outs] at h; cases h; all_goals simp
  | false :: fx, a :: as, as', xs, [], σ, A1, h, e, k, r, l, up => by rw [outs] at h; cases h; all_goals simp
end

/-- where one stands: the written part, room for calls, what is wished of exceptions -/
structure Dk (X : Cx) (c : RC) (W : WX) (k : Nat) : Prop where
  K : X.K = c.K
  hr : Room k X.A
  calm : X.calm = true
  nd : X.N.Nodup
  tk : Takes X W
  po : PassesOwn (model X.prog X.w) X.A X.env X.xe
  gd : X.A.guards = some []
/-- the little that most rules lean on -/
structure Ds (X : Cx) (c : RC) : Prop where
  K : X.K = c.K
  un : X.A.units + 64 < cLine
  nd : X.N.Nodup
  gd : X.A.guards = some []
theorem Dk.s {X : Cx} {c : RC} {W : WX} {k : Nat} (h : Dk X c W k) : Ds X c := ⟨h.K, by have := h.hr.un; omega, h.nd, h.gd⟩
instance {X : Cx} {c : RC} {W : WX} {k : Nat} : CoeOut (Dk X c W k) (Ds X c) := ⟨Dk.s⟩
abbrev W0 : WX := fun _ _ _ _ => False
theorem Dk.blk {X : Cx} {c : RC} {W : WX} {k : Nat} (h : Dk X c W k) (s : Shared) (H : Hp) (sc : Scope) (ce : PySem.Env) (fp : List Addr) : Dk (X.blk s H sc ce fp) c W0 k := ⟨h.K, h.hr, h.calm, h.nd, takes0, PassesOwn.never, h.gd⟩
section
variable {P : Program} {w : World} {K : PySem.W.Frag} {mg : Str → Option Value} {base : Heap} {c : RC}
/-- THE RULE for a def -/
theorem ok_def {x qual : Str} {st : Stmt} {f : Addr} {fd : FuncData} {N ps : List Str} {k : Nat} {sem : SF} (fx : List Bool) (hK : K = c.K) (Fn : Fun K x qual st f fd) (S : FnScope N ps (defScope st)) (hl : fx.length = ps.length) (hN : ps.length ≤ N.length)
    (body : ∀ (X : Cx) (W : WX), (∃ cdv A outer s H E, X = cxOf (L2.CX P w) P w K mg base N qual (defScope st) f cdv A outer s H E) → Dk X c W k → SSs c W (fxOf fx) X (defBody st) sem) :
    FnG P w K mg base (L2.CX P w) (k + 1) f fd ps (spF c ps.length (mk fx N.length sem)) := by
  refine Fun.okG Fn S (fun vs H Q E h => h.1) fun cdv A outer s H vs Q E gA hr h => ?_
  obtain ⟨l, as, F, A0, g, r, p⟩ := h
  refine ⟨_, body _ (fun cls d _ H' => E cls d H') ⟨cdv, A, outer, s, H, E, rfl⟩ ⟨hK, hr, rfl, S.nd, takes_of rfl rfl rfl rfl, passes_of rfl, gA⟩, ?_⟩
  have las : as.length = vs.length := by rw [r.len]
  have est : L2.start N vs = vs.map some ++ List.replicate (N.length - fx.length) none := by
    unfold L2.start
    rw [l, hl]
  refine ⟨as.map some ++ List.replicate (N.length - fx.length) none, F, A0, g, by rw [est]; exact RE.start _ r, ?_⟩
  unfold mk at p
  rw [if_pos (by rw [las, l, hl])] at p
  have up : ∀ {H' : Hp} {F' b : AS}, Stp H F A0 H' F' b → ∀ (v : PV) (x : V), R c H F v x Emp → R c H' F' v x Emp := fun t v x q => q.step g t Dis.empl
  have kp : ∀ {σ' : L2.St}, Keep (fxOf fx) (L2.start N vs) σ' → ∀ i, fx.getD i false = true → σ'[i]? = (vs.map some)[i]? := fun {σ'} q i z => by
    rw [q.at_ i z, est]
    have hi : i < fx.length := by
      rcases Nat.lt_or_ge i fx.length with h | h
      · exact h
      · rw [List.getD_eq_getElem?_getD, List.getElem?_eq_none h] at z; cases z
    rw [List.getElem?_append_left (by rw [List.length_map, l, ← hl]; exact hi)]
  have lv : vs.length = fx.length := by rw [l, hl]
  cases q : sem (as.map some ++ List.replicate (N.length - fx.length) none) with
  | nx ρ' =>
    simp only [q] at p
    intro σ' H' F' b t g1 e1 kk
    unfold fin at p
    cases o : outs fx as ρ' with
    | none => simp only [o] at p
    | some ws =>
      simp only [o] at p
      exact p .non H' F' Emp b (t.drop (Sub.uni Sub.emp (Sub.refl _))) (g1.sub (Sub.uni Sub.emp (Sub.refl _))) Dis.empl rfl (outs_ok o e1 (kp kk) r lv (up t))
  | rt v ρ' =>
    simp only [q] at p
    intro x σ' H' F' a b t g1 d rv e1 kk
    unfold fin at p
    cases o : outs fx as ρ' with
    | none => simp only [o] at p
    | some ws =>
      simp only [o] at p
      exact p x H' F' a b t g1 d rv (outs_ok o e1 (kp kk) r lv (up t))
  | er x ρ' =>
    simp only [q] at p
    intro cls d σ' H' F' b t g1 rx e1 kk
    unfold finE at p
    cases o : outs fx as ρ' with
    | none => simp only [o] at p
    | some ws =>
      simp only [o] at p
      exact p cls d H' F' b t g1 rx (outs_ok o e1 (kp kk) r lv (up t))
  | bk ρ' => simp only [q] at p
  | ct ρ' => simp only [q] at p
  | bad => simp only [q] at p
end
end Tr
/-! Tr: calls, on trees. -/
set_option autoImplicit false
namespace Tr
def goAll : List Opd → Env → Res (List (Option PV))
  | [], ρ => .ok [] ρ
  | o :: os, ρ => (o.go ρ).bind fun t ρ1 => (goAll os ρ1).bind fun ts ρ2 => .ok (t :: ts) ρ2
/-- an argument is handed over: a name's slot is lent (it stays where nothing in it may be written) -/
def take1 (o : Opd) (t : Option PV) (ρ : Env) : Option (PV × Env) := match o with
  | .nm i => match slot ρ i with
    | some v => if fro v = true then some (v, ρ) else some (v, ρ.set i none)
    | none => none
  | .ev _ => match t with
    | some v => some (v, ρ)
    | none => none
def takeAll : List Opd → List (Option PV) → Env → Option (List PV × Env)
  | [], [], ρ => some ([], ρ)
  | o :: os, t :: ts, ρ => match take1 o t ρ with
    | some (v, ρ1) => match takeAll os ts ρ1 with
      | some (vs, ρ2) => some (v :: vs, ρ2)
      | none => none
    | none => none
  | _, _, _ => none
/-- and given back -/
def give1 (o : Opd) (v w : PV) (ρ : Env) : Env := match o with
  | .nm i => if fro v = true then ρ else ρ.set i (some w)
  | .ev _ => ρ
def giveAll : List Opd → List PV → List PV → Env → Env
  | o :: os, v :: vs, w :: ws, ρ => give1 o v w (giveAll os vs ws ρ)
  | _, _, _, ρ => ρ
def back {α : Type} (r : FR) (k : PV → Env → Res α) (g : List PV → Env) : Res α := match r with
  | .ok v ws => k v (g ws)
  | .er e ws => .er e (g ws)
  | .bad => .bad
/-- f(..); ds: the defaults that are left -/
def eCall (sem : FF) (os : List Opd) (ds : List PV) : EF := fun ρ => (goAll os ρ).bind fun ts ρ1 => match takeAll os ts ρ1 with
  | none => .bad
  | some (vs, ρ2) => back (sem (vs ++ ds)) .ok fun ws => giveAll os vs ws ρ2
end Tr
set_option Elab.async false
set_option linter.all false
set_option maxRecDepth 100000
set_option maxHeartbeats 4000000
/-! Tr.C: calls of the text's defs. -/
namespace Tr
open PySem PySem.Spec L2

section
variable (c : RC) (σ : L2.St) (H : Hp) (F : AS)
def Tmps : List Opd → List (Option PV) → List V → AS → Prop
  | [], ts, xs, _ => ts = [] ∧ xs = []
  | o :: os, ts, xs, a => ∃ t ts' x xs' b d, ts = t :: ts' ∧ xs = x :: xs' ∧ Sub b a ∧ Sub d a ∧ Dis b d ∧ Tmp c σ H F o t x b ∧ Tmps os ts' xs' d
end
/-- what stands behind the names among operands -/
def Nms (σ : L2.St) : List Opd → List V → Prop
  | [], _ => True
  | o :: os, xs => ∃ x xs', xs = x :: xs' ∧ (match o with | .nm i => σ[i]? = some (some x) | .ev _ => True) ∧ Nms σ os xs'
section
variable {β μ : Type} {c : RC} {W : WX} {rel' : Hp → AS → β → μ → AS → Prop} {σ : L2.St} {H H' : Hp} {F A F' A' : AS}
theorem Tmps.nms : ∀ {os : List Opd} {ts : List (Option PV)} {xs : List V} {a : AS}, Tmps c σ H F os ts xs a → Nms σ os xs
  | [], _, _, _, _ => trivial
  | o :: os, _, _, _, ⟨t, ts', x, xs', b, d, _, e, _, _, _, tm, tl⟩ => ⟨x, xs', e, by
      cases o with
      | nm i => exact tm
      | ev f => trivial, tl.nms⟩
theorem Tmps.step (g : Good H F A) (s : Stp H F A H' F' A') : ∀ {os : List Opd} {ts : List (Option PV)} {xs : List V} {a : AS}, Tmps c σ H F os ts xs a → Dis a A → Tmps c σ H' F' os ts xs a
  | [], _, _, _, h, _ => h
  | o :: os, _, _, _, ⟨t, ts', x, xs', b, d, e1, e2, s1, s2, k, tm, tl⟩, dd => ⟨t, ts', x, xs', b, d, e1, e2, s1, s2, k, tm.step g s (dd.mono s1 (Sub.refl _)), tl.step g s (dd.mono s2 (Sub.refl _))⟩
def tOs (c : RC) (W : WX) : List Opd → TA
  | [] => tNil
  | o :: os => tCons (tO c W o) (tOs c W os)
theorem tOs.next : ∀ {os : List Opd} {g : List (Option PV) → Env → Res β} {Q : μ → Hp → Prop} {K : List V → Hp → Prop} {ρ : Env} {t b : AS} {H : Hp} {F A : AS},
    Good H F A → Sub t A → Sub b A → Dis t b → RE c H F ρ σ b → Post c W rel' σ H F A ((goAll os ρ).bind g) Q →
    (∀ us xs ρ1 H1 F1 a1 b1, Good H1 F1 (Uni t (Uni a1 b1)) → Dis t (Uni a1 b1) → Dis a1 b1 → Tmps c σ H1 F1 os us xs a1 → RE c H1 F1 ρ1 σ b1 → Stp H F b H1 F1 (Uni a1 b1) →
      Post c W rel' σ H1 F1 (Uni t (Uni a1 b1)) (g us ρ1) Q → K xs H1) → tOs c W os σ H K
  | [], g, Q, K, ρ, t, b, H, F, A, gd, st, sb, d, e, p, k => by
    refine k [] [] ρ H F Emp b (gd.sub (Sub.uni st (Sub.uni Sub.emp sb))) (fun q x y => y.elim (fun z => z) (d q x)) Dis.empl ⟨rfl, rfl⟩ e (Stp.refl.drop (Sub.uni Sub.emp (Sub.refl _))) (Post.sub p (Sub.uni st (Sub.uni Sub.emp sb)))
  | o :: os, g, Q, K, ρ, t, b, H, F, A, gd, st, sb, d, e, p, k => by
    have p' : Post c W rel' σ H F A ((o.go ρ).bind fun t ρ1 => (goAll os ρ1).bind fun ts ρ2 => g (t :: ts) ρ2) Q := by
      unfold goAll at p
      cases q : o.go ρ with
      | ok u ρ1 =>
        simp only [q, Res.bind_ok] at p ⊢
        cases q2 : goAll os ρ1 with
        | ok us ρ2 => simp only [q2, Res.bind_ok] at p ⊢; exact p
        | er x ρ2 => simp only [q2, Res.bind_er] at p ⊢; exact p
        | bad => simp only [q2, Res.bind_bad] at p; exact p.elim
      | er x ρ1 => simp only [q, Res.bind_er] at p ⊢; exact p
      | bad => simp only [q, Res.bind_bad] at p; exact p.elim
    refine tO.next gd st sb d e p' fun u x ρ1 H1 F1 a1 b1 g1 d1 d2 tm e1 s1 p1 => ?_
    refine tOs.next (os := os) (t := Uni t a1) (b := b1) g1 (Sub.uni Sub.l (Sub.l.trans Sub.r)) (Sub.r.trans Sub.r) ?_ e1 p1 fun us xs ρ2 H2 F2 a2 b2 g2 d3 d4 tms e2 s2 p2 => ?_
    · exact Dis.uni (fun q y z => d1 q y (.inr z)) d2
    have g1b := g1.sub (show Sub b1 _ from Sub.r.trans Sub.r)
    have tm2 := tm.step g1b s2 d2
    have sw : Sub (Uni t (Uni (Uni a1 a2) b2)) (Uni (Uni t a1) (Uni a2 b2)) := by
      intro q y
      rcases y with y | (y | y) | y
      · exact .inl (.inl y)
      · exact .inl (.inr y)
      · exact .inr (.inl y)
      · exact .inr (.inr y)
    have d12 : Dis a1 a2 := fun q y z => d3 q (.inr y) (.inl z)
    refine k (u :: us) (x :: xs) ρ2 H2 F2 (Uni a1 a2) b2 (g2.sub sw) ?_ ?_ ⟨u, us, x, xs, a1, a2, rfl, rfl, Sub.l, Sub.r, d12, tm2, tms⟩ e2 ?_ (p2.sub sw)
    · intro q y z
      rcases z with (z | z) | z
      · exact d1 q y (.inl z)
      · exact d3 q (.inl y) (.inl z)
      · exact d3 q (.inl y) (.inr z)
    · exact Dis.uni (fun q y z => d3 q (.inr y) (.inr z)) d4
    · refine (s1.trans ((s2.frame (B := a1)))).drop ?_
      intro q y
      rcases y with (y | y) | y
      · exact .inl y
      · exact .inr (.inl y)
      · exact .inr (.inr y)
/-- the operands handed over -/
theorem take_ok : ∀ {os : List Opd} {ts : List (Option PV)} {xs : List V} {a b : AS} {ρ ρ2 : Env} {vs : List PV}, Tmps c σ H F os ts xs a → RE c H F ρ σ b → Dis a b → takeAll os ts ρ = some (vs, ρ2) →
    ∃ a2 b2, Sub a2 (Uni a b) ∧ Sub b2 b ∧ Dis a2 b2 ∧ Rs c H F vs xs a2 ∧ RE c H F ρ2 σ b2
  | [], _, _, a, b, ρ, ρ2, vs, ⟨rfl, rfl⟩, e, d, h => by
    rw [takeAll] at h; cases h
    exact ⟨Emp, b, Sub.emp, Sub.refl _, Dis.empl, rfl, e⟩
  | o :: os, _, _, a, b, ρ, ρ2, vs, ⟨t, ts, x, xs, a1, d1, rfl, rfl, s1, s2, k, tm, tl⟩, e, d, h => by
    rw [takeAll] at h
    cases q : take1 o t ρ with
    | none => simp only [q] at h; cases h
    | some z =>
      obtain ⟨v, ρ1⟩ := z
      simp only [q] at h
      cases q2 : takeAll os ts ρ1 with
      | none => simp only [q2] at h; cases h
      | some z2 =>
        obtain ⟨ws, ρ3⟩ := z2
        simp only [q2] at h
        cases h
        have one : ∃ a3 b3, Sub a3 (Uni a1 b) ∧ Sub b3 b ∧ Dis a3 b3 ∧ (∀ q, a3 q → d1 q → False) ∧ R c H F v x a3 ∧ RE c H F ρ1 σ b3 := by
          cases o with
          | nm i =>
            rw [take1] at q
            cases q3 : slot ρ i with
            | none => simp only [q3] at q; cases q
            | some v' =>
              simp only [q3] at q
              have ex : σ[i]? = some (some x) := tm
              split at q
              · rename_i f
                cases q
                obtain ⟨y, d2, h1, h2, h3⟩ := e.look q3
                rw [ex] at h1; cases h1
                exact ⟨Emp, b, Sub.emp, Sub.refl _, Dis.empl, fun _ z => z.elim, R.emp h3 f, e⟩
              · cases q
                obtain ⟨y, b3, d3, h1, h2, h3, h4, h5, h6⟩ := e.take q3
                rw [ex] at h1; cases h1
                exact ⟨b3, d3, h2.trans Sub.r, h3, h4, fun q y z => d q (s2 q z) (h2 q y), h5, h6⟩
          | ev f =>
            obtain ⟨v', e1, r⟩ := tm
            subst e1
            rw [take1] at q
            cases q
            exact ⟨a1, b, Sub.l, Sub.refl _, d.mono s1 (Sub.refl _), k, r, e⟩
        obtain ⟨a3, b3, t1, t2, t3, t4, r, e3⟩ := one
        obtain ⟨a4, b4, u1, u2, u3, rs, e4⟩ := take_ok tl e3 (d.mono s2 t2) q2
        refine ⟨Uni a3 a4, b4, ?_, u2.trans t2, ?_, ⟨x, xs, a3, a4, rfl, Sub.l, Sub.r, ?_, r, rs⟩, e4⟩
        · refine Sub.uni (fun q y => (t1 q y).imp_left (s1 q)) fun q y => (u1 q y).elim (fun z => .inl (s2 q z)) fun z => .inr (t2 q z)
        · exact Dis.uni (fun q y z => t3 q y (u2 q z)) u3
        · intro q y z
          rcases u1 q z with z | z
          · exact t4 q y z
          · exact t3 q y z
/-- and given back -/
theorem give_ok : ∀ {os : List Opd} {vs ws : List PV} {xs ys : List V} {a b : AS} {ρ : Env}, Nms σ os xs → Rs c H F ws (xs ++ ys) a → RE c H F ρ σ b → Dis a b → RE c H F (giveAll os vs ws ρ) σ (Uni a b)
  | [], vs, ws, xs, ys, a, b, ρ, n, r, e, d => by
    rw [giveAll]
    · exact e.mono Sub.r
    · intros; simp_all
  | o :: os, vs, ws, _, ys, a, b, ρ, ⟨x, xs, rfl, n1, n2⟩, r, e, d => by
    cases vs with
    | nil => rw [giveAll]; exact e.mono Sub.r; intros; simp_all
    | cons v vs =>
      cases ws with
      | nil => cases r
      | cons w ws =>
        rw [giveAll]
        obtain ⟨x', xs', a1, a2, ex, s1, s2, k, rw', rs⟩ := r
        cases ex
        have e2 := give_ok (vs := vs) n2 rs e (d.mono s2 (Sub.refl _))
        cases o with
        | nm i =>
          rw [give1]
          split
          · exact e2.mono (Sub.uni (s2.trans Sub.l) Sub.r)
          · have e3 := RE.put (e2.wipe i) n1 rw' (fun q y z => z.elim (k q y) (d q (s1 q y)))
            rw [List.set_set] at e3
            exact e3.mono (Sub.uni (s1.trans Sub.l) (Sub.uni (s2.trans Sub.l) Sub.r))
        | ev f => exact e2.mono (Sub.uni (s2.trans Sub.l) Sub.r)
/-- the callee's promise, met -/
theorem call_ok {sem : FF} {os : List Opd} {ts : List (Option PV)} {xs : List V} {dps : List PV} {dvs : List V} {a b : AS} {ρ : Env} {Q : VK} {n : Nat} (g : Good H F A) (sa : Sub a A) (sb : Sub b A) (d : Dis a b) (tm : Tmps c σ H F os ts xs a) (e : RE c H F ρ σ b)
    (hd : Rs c H F dps dvs Emp) (hn : os.length + dps.length = n)
    (p : Post c W (relE c) σ H F A (match takeAll os ts ρ with | none => .bad | some (vs, ρ2) => back (sem (vs ++ dps)) .ok fun ws => giveAll os vs ws ρ2) Q) : spF c n sem (xs ++ dvs) H Q (fun cls d H' => W cls d σ H') := by
  cases q : takeAll os ts ρ with
  | none => simp only [q] at p; exact p.elim
  | some z =>
    obtain ⟨vs, ρ2⟩ := z
    simp only [q] at p
    obtain ⟨a2, b2, s1, s2, d2, r, e2⟩ := take_ok tm e d q
    have r2 : Rs c H F (vs ++ dps) (xs ++ dvs) a2 := (Rs.append r hd Dis.empr).mono fun q z => z.elim id False.elim
    have sa2 : Sub a2 A := fun q z => (s1 q z).elim (sa q) (sb q)
    have sb2 : Sub b2 A := s2.trans sb
    have lx : xs.length = os.length := by
      have go : ∀ {os : List Opd} {ts : List (Option PV)} {xs : List V} {a : AS}, Tmps c σ H F os ts xs a → xs.length = os.length := by
        intro os
        induction os with
        | nil => intro ts xs a h; rw [h.2]; rfl
        | cons o os ih => rintro ts xs a ⟨_, _, _, _, _, _, _, e, _, _, _, _, tl⟩; rw [e, List.length_cons, List.length_cons, ih tl]
      exact go tm
    refine ⟨by rw [List.length_append, lx, hd.len]; exact hn, vs ++ dps, F, a2, g.sub sa2, r2, ?_⟩
    have g2 := g.sub (Sub.uni sa2 sb2)
    have later : ∀ {H' : Hp} {F' A' : AS}, Stp H F a2 H' F' A' → Good H' F' A' → Dis A' b2 ∧ Good H' F' b2 ∧ RE c H' F' ρ2 σ b2 ∧ Stp H F A H' F' (Uni b2 A') := fun s g' =>
      ⟨(s.apart (g.sub sb2) d2.sym).sym, (g.sub sb2).kept s g' d2.sym, e2.step (g.sub sa2) s d2.sym, (s.frame (B := b2)).more (Sub.uni sb2 sa2)⟩
    cases q2 : sem (vs ++ dps) with
    | bad => simp only [q2, back] at p; exact p.elim
    | ok v ws =>
      simp only [q2, back] at p
      intro x H' F' a3 b3 s g3 d3 rv rw'
      obtain ⟨l1, l2, l3, l4⟩ := later s g3
      have e4 := give_ok (vs := vs) tm.nms rw' l3 (fun q y z => l1 q (.inr y) z)
      refine p x H' F' a3 (Uni b3 b2) (l4.drop ?_) (((g3.uni l2)).sub ?_) ?_ rv e4
      · exact fun q y => y.elim (fun z => .inr (.inl z)) fun z => z.elim (fun z => .inr (.inr z)) .inl
      · exact fun q y => y.elim (fun z => .inl (.inl z)) fun z => z.elim (fun z => .inl (.inr z)) .inr
      · exact fun q y z => z.elim (d3 q y) (l1 q (.inl y))
    | er x ws =>
      simp only [q2, back] at p
      intro cls dd H' F' b3 s g3 rx rw'
      obtain ⟨l1, l2, l3, l4⟩ := later s g3
      have e4 := give_ok (vs := vs) tm.nms rw' l3 (fun q y z => l1 q y z)
      exact p cls dd H' F' (Uni b3 b2) (l4.drop (Sub.uni Sub.r Sub.l)) (g3.uni l2) rx e4
end

section
variable {X : Cx} {c : RC} {W : WX} {k j n : Nat} {f : Addr} {fd : FuncData} {ps : List Str} {sem : FF} {dvs : List V} {dps : List PV} {ds : List Value} {x : Str} {p pos : Pos} {e : Expr} {es : List Expr} {os : List Opd}
/-- operands in a row -/
def SOs (X : Cx) (c : RC) (W : WX) (es : List Expr) (os : List Opd) : Prop := PA X es (tOs c W os)
theorem sos_nil : SOs X c W [] [] := pa_nil
theorem sos_cons {o : Opd} (h : SO X c W e o) (hs : SOs X c W es os) (st : starEach (e :: es) X.env = (false, eval e X.env) :: starEach es X.env := by rfl) : SOs X c W (e :: es) (o :: os) := pa_cons h hs st
theorem call_q {os : List Opd} {σ : L2.St} {H : Hp} {Q : VK} (hd : ∀ H F, Rs c H F dps dvs Emp) (hn : os.length + dps.length = n) (q : tEx c W (eCall sem os dps) σ H Q) : tOs c W os σ H fun xs H1 => spF c n sem (xs ++ dvs) H1 Q (fun cls d H' => W cls d σ H') := by
  obtain ⟨ρ, F, A, gd, e, p⟩ := q
  refine tOs.next (t := Emp) gd Sub.emp (Sub.refl _) Dis.empl e p fun us xs ρ1 H1 F1 a1 b1 g1 _ d tm e1 s p1 => ?_
  exact call_ok g1 (Sub.l.trans Sub.r) (Sub.r.trans Sub.r) d tm e1 (hd _ _) hn p1
theorem se_call (D : Dk X c W j) (G : FnG X.prog X.w X.K X.mg X.base (L2.CX X.prog X.w) k f fd ps (spF c n sem)) (hr : k ≤ j) (hg : Gl X x) (hm : X.mg x = some (.ref f)) (hk : PySem.W.keepIn X.K (.ref f) = true) (hb : Binds X.K fd ps ds) (hd : Vals dvs ds) (hp : ∀ H F, Rs c H F dps dvs Emp)
    (ha : SOs X c W (e :: es) os) (hn : os.length + dps.length = n) (hdb : (x == ("__debug__" : Str)) = false := by decide) (he : starEach (e :: es) X.env = (false, eval e X.env) :: starEach es X.env := by rfl) (hpl : (backTo pos (starEach es X.env)).any (·.1) = false := by rfl) :
    SE X c W (.Call (.Name x p) (e :: es) [] pos) (eCall sem os dps) :=
  PE.weak (pe_callG (E := fun σ cls d H' => W cls d σ H') G D.gd (D.hr.mono hr) hg hm hk hb hd (fun σ => passAt D.tk σ) ha hdb he hpl) fun σ H Q q => call_q hp hn q
end
end Tr
/-! Tr: loops, targets, on trees. -/
set_option autoImplicit false
namespace Tr
/-- a target's store -/
abbrev BF := PV → Env → Option Env
def bN (i : Nat) : BF := fun v ρ => some (ρ.set i (some v))
def bAll : List BF → List PV → Env → Option Env
  | [], [], ρ => some ρ
  | b :: bs, v :: vs, ρ => match b v ρ with
    | some ρ1 => bAll bs vs ρ1
    | none => none
  | _, _, _ => none
def bT (bs : List BF) : BF := fun v ρ => match v with
  | .tup xs => bAll bs xs ρ
  | _ => none
/-- what is walked -/
def items : PV → Option (List PV)
  | .tup xs => some xs
  | .lst _ xs => some xs
  | _ => none
def loop (b : BF) (s : SF) : List PV → Env → SR
  | [], ρ => .nx ρ
  | x :: xs, ρ => match b x ρ with
    | none => .bad
    | some ρ1 => match s ρ1 with
      | .nx ρ2 => loop b s xs ρ2
      | .ct ρ2 => loop b s xs ρ2
      | .bk ρ2 => .nx ρ2
      | r => r
def after (r : SR) (g : Env → Env) : SR := match r with
  | .nx ρ => .nx (g ρ)
  | .bk ρ => .bk (g ρ)
  | .ct ρ => .ct (g ρ)
  | .rt v ρ => .rt v (g ρ)
  | .er e ρ => .er e (g ρ)
  | .bad => .bad
/-- what a for walks: frozen items -/
abbrev IF := Env → Res (List PV)
def iE (f : EF) : IF := fun ρ => (f ρ).bind fun v ρ1 => .of (items (frz v)) ρ1
def iRange1 (f : EF) : IF := fun ρ => (f ρ).bind fun v ρ1 => match v with
  | .int n => if decide (-(2 ^ 62) ≤ n) && decide (n < 2 ^ 62) && decide (n.toNat ≤ big) then .ok ((List.range n.toNat).map fun i => .int (i : Nat)) ρ1 else .bad
  | _ => .bad
def iRange2 (f g : EF) : IF := fun ρ => (f ρ).bind fun v ρ1 => (g ρ1).bind fun w ρ2 => match v, w with
  | .int m, .int n => if decide (-(2 ^ 62) ≤ m) && decide (m < 2 ^ 62) && decide (-(2 ^ 62) ≤ n) && decide (n < 2 ^ 62) && decide ((n - m).toNat ≤ big) then .ok ((List.range (n - m).toNat).map fun i => .int (m + (i : Nat))) ρ2 else .bad
  | _, _ => .bad
def sFor (w : IF) (b : BF) (s : SF) : SF := fun ρ => sOf (w ρ) fun xs ρ1 => loop b s xs ρ1
/-- over a list in a slot, which nothing in the loop asks for -/
def sForN (i : Nat) (b : BF) (s : SF) : SF := fun ρ => match slot ρ i with
  | some v => match items v with
    | some xs => if fros xs = true then after (loop b s xs (ρ.set i none)) (fun ρ' => ρ'.set i (some v)) else .bad
    | none => .bad
  | none => .bad
def sSetT (b : BF) (f : EF) : SF := fun ρ => sOf (f ρ) fun v ρ1 => match b v ρ1 with
  | some ρ2 => .nx ρ2
  | none => .bad
/-- without an exception -/
def Res.bindB {α β : Type} (r : Res α) (k : α → Env → Res β) : Res β := match r with
  | .ok a ρ => k a ρ
  | _ => .bad
@[simp] theorem Res.bindB_ok {α β : Type} (a : α) (ρ : Env) (k : α → Env → Res β) : Res.bindB (.ok a ρ) k = k a ρ := rfl
def wipeE : List Nat → Env → Env
  | [], ρ => ρ
  | i :: is, ρ => (wipeE is ρ).set i none
/-- a comprehension's turns -/
def compL (own : List Nat) (b : BF) (t : TF) (f : EF) : List PV → Env → Res (List PV)
  | [], ρ => .ok [] ρ
  | x :: xs, ρ => match b x ρ with
    | none => .bad
    | some ρ1 => (t ρ1).bindB fun c ρ2 => if c = true then (f ρ2).bindB fun v ρ3 => (compL own b t f xs (wipeE own ρ3)).bindB fun vs ρ4 => .ok (v :: vs) ρ4 else compL own b t f xs (wipeE own ρ2)
/-- the names of the block hold again what they held, where this was frozen -/
def restore : List Nat → Env → Env → Env
  | [], _, ρ => ρ
  | i :: is, ρ0, ρ => match slot ρ0 i with
    | some v => if fro v = true then (restore is ρ0 ρ).set i (some v) else restore is ρ0 ρ
    | none => restore is ρ0 ρ
def tYes : TF := fun ρ => .ok true ρ
/-- [f for b in w if t] -/
def eComp (own : List Nat) (w : IF) (b : BF) (t : TF) (f : EF) : EF := fun ρ => (w ρ).bind fun xs ρ1 => (compL own b t f xs (wipeE own ρ1)).bindB fun vs ρ2 => .ok (.lst true vs) (restore own ρ1 ρ2)
/-- over a list that stands in a slot -/
def eCompN (own : List Nat) (i : Nat) (b : BF) (t : TF) (f : EF) : EF := fun ρ => match slot ρ i with
  | some v => match items v with
    | some xs => if fros xs = true then
        if fro v = true then (compL own b t f xs (wipeE own ρ)).bindB fun vs ρ2 => .ok (.lst true vs) (restore own ρ ρ2)
        else (compL own b t f xs (wipeE own (ρ.set i none))).bindB fun vs ρ2 => .ok (.lst true vs) ((restore own ρ ρ2).set i (some v))
      else .bad
    | none => .bad
  | none => .bad
/-- while, at most n turns -/
def whileN (t : TF) (s : SF) : Nat → SF
  | 0, _ => .bad
  | n + 1, ρ => sOf (t ρ) fun c ρ1 => if c = true then (match s ρ1 with
      | .nx ρ2 => whileN t s n ρ2
      | .ct ρ2 => whileN t s n ρ2
      | .bk ρ2 => .nx ρ2
      | r => r) else .nx ρ1
end Tr
set_option Elab.async false
set_option linter.all false
set_option maxRecDepth 100000
set_option maxHeartbeats 4000000
/-! Tr.F: targets, for. -/
namespace Tr
open PySem PySem.Spec L2

/-! ### targets -/
section
variable (c : RC) (fx : Nat → Bool)
def tGt (b : BF) : TG := fun x σ H Q => ∃ v ρ F a e, Good H F (Uni a e) ∧ Dis a e ∧ R c H F v x a ∧ RE c H F ρ σ e ∧ ∃ ρ', b v ρ = some ρ' ∧
  ∀ σ' H' F' e', Stp H F (Uni a e) H' F' e' → Good H' F' e' → RE c H' F' ρ' σ' e' → Keep fx σ σ' → Q σ' H'
def tGts (bs : List BF) : TGs := fun xs σ H Q => ∃ vs ρ F a e, Good H F (Uni a e) ∧ Dis a e ∧ Rs c H F vs xs a ∧ RE c H F ρ σ e ∧ ∃ ρ', bAll bs vs ρ = some ρ' ∧
  ∀ σ' H' F' e', Stp H F (Uni a e) H' F' e' → Good H' F' e' → RE c H' F' ρ' σ' e' → Keep fx σ σ' → Q σ' H'
def SG (X : Cx) (tg : Expr) (b : BF) : Prop := PG X tg (tGt c fx b)
def SGs (X : Cx) (ts : List Expr) (bs : List BF) : Prop := PGs X ts (tGts c fx bs)
end
section
variable {X : Cx} {c : RC} {W : WX} {fx : Nat → Bool} {tg : Expr} {ts : List Expr} {b : BF} {bs : List BF} {pos : Pos}
theorem PG.weak {t t' : TG} (h : PG X tg t) (k : ∀ v σ H Q, t' v σ H Q → t v σ H Q) : PG X tg t' := ⟨fun pins s σ H v u Q I r q => h.run pins s σ H v u Q I r (k v σ H Q q)⟩
theorem PGs.weak {t t' : TGs} (h : PGs X ts t) (k : ∀ v σ H Q, t' v σ H Q → t v σ H Q) : PGs X ts t' := ⟨fun pins s σ H v u Q I r q => h.run pins s σ H v u Q I r (k v σ H Q q)⟩
theorem sg_name {i : Nat} {x : Str} (hN : X.N.Nodup) (hi : X.N[i]? = some x) (hx : Loc X.env.scope x) (hf : fx i = false) (hff : X.fn x = true ∨ X.env.scope.names.lookup x = some .local := by first | exact .inl rfl | exact .inr rfl | assumption) : SG c fx X (.Name x pos) (bN i) := by
  refine PG.weak (pg_name hN hi hx hff) fun x σ H Q q => ?_
  obtain ⟨v, ρ, F, a, e, g, d, r, re, ρ', hb, k⟩ := q
  cases hb
  exact k _ H F (Uni a e) Stp.refl g (re.storeAny r d) (Keep.set hf)
theorem sgs_nil : SGs c fx X [] [] := by
  refine PGs.weak pgs_nil fun xs σ H Q q => ?_
  obtain ⟨vs, ρ, F, a, e, g, d, r, re, ρ', hb, k⟩ := q
  cases vs with
  | nil =>
    rw [bAll] at hb; cases hb
    exact ⟨r, k σ H F e (Stp.refl.drop Sub.r) (g.sub Sub.r) re Keep.refl⟩
  | cons _ _ => rw [bAll] at hb; cases hb; all_goals (intros; simp_all)
theorem sgs_cons (h : SG c fx X tg b) (hs : SGs c fx X ts bs) (st : (assignEach (tg :: ts) X.env).map (·.2) = assign tg X.env :: (assignEach ts X.env).map (·.2) := by rfl) : SGs c fx X (tg :: ts) (b :: bs) := by
  refine PGs.weak (pgs_cons h hs st) fun xs σ H Q q => ?_
  obtain ⟨vs, ρ, F, a, e, g, d, r, re, ρ', hb, k⟩ := q
  cases vs with
  | nil => rw [bAll] at hb; cases hb; all_goals (intros; simp_all)
  | cons v vs =>
    rw [bAll] at hb
    cases q1 : b v ρ with
    | none => simp only [q1] at hb; cases hb
    | some ρ1 =>
      simp only [q1] at hb
      obtain ⟨x, xs', a1, a2, ex, s1, s2, dd, rv, rs⟩ := r
      refine ⟨x, xs', ex, v, ρ, F, a1, e, g.sub (Sub.uni (s1.trans Sub.l) Sub.r), d.mono s1 (Sub.refl _), rv, re, ρ1, q1, fun σ1 H1 F1 e1 t1 g1 r1 k1 => ?_⟩
      have da : Dis a2 (Uni a1 e) := fun q y z => z.elim (fun z => dd q z y) (d q (s2 q y))
      have g2 : Good H F a2 := g.sub (s2.trans Sub.l)
      have ga := g2.kept t1 g1 da
      have de := t1.apart g2 da
      refine ⟨vs, ρ1, F1, a2, e1, ga.uni g1, de, rs.step (g.sub (Sub.uni (s1.trans Sub.l) Sub.r)) t1 da, r1, ρ', hb, fun σ2 H2 F2 e2 t2 g3 r2 k2 => ?_⟩
      refine k σ2 H2 F2 e2 (((t1.frame (B := a2)).more ?_).trans t2) g3 r2 (k1.trans k2)
      exact Sub.uni (s2.trans Sub.l) (Sub.uni (s1.trans Sub.l) Sub.r)
theorem bAll_len : ∀ {bs : List BF} {vs : List PV} {ρ ρ' : Env}, bAll bs vs ρ = some ρ' → vs.length = bs.length
  | [], [], _, _, _ => rfl
  | b :: bs, v :: vs, ρ, ρ', h => by
    rw [bAll] at h
    cases q : b v ρ with
    | none => simp only [q] at h; cases h
    | some ρ1 => simp only [q] at h; rw [List.length_cons, List.length_cons, bAll_len h]
  | [], _ :: _, _, _, h => by rw [bAll] at h; cases h; all_goals (intros; simp_all)
  | _ :: _, [], _, _, h => by rw [bAll] at h; cases h; all_goals (intros; simp_all)
theorem sg_tup {k : Nat} (hK : X.K = c.K) (hc : X.calm = true) (h : SGs c fx X ts bs) (hn : (assignEach ts X.env).length = bs.length := by rfl) (hst : (assignEach ts X.env).findIdx? (·.1) = none := by rfl) : SG c fx X (.Tuple ts k pos) (bT bs) := by
  refine PG.weak (pg_tup hc h hn hst) fun x σ H Q q => ?_
  obtain ⟨v, ρ, F, a, e, g, d, r, re, ρ', hb, kk⟩ := q
  cases v <;> first | (cases hb; done) | skip
  obtain ⟨p, vs, rfl, q1, l, rs⟩ := r.tupR
  have hb' : bAll bs _ ρ = some ρ' := hb
  refine ⟨p, vs, rfl, by rw [hK]; exact q1, by rw [rs.len, bAll_len hb'], _, ρ, F, a, e, g, d, rs, re, ρ', hb', kk⟩
/-- a, b = e -/
theorem ss_setT {e : Expr} {f : EF} (h : SE X c W e f) (hg : SG c fx X tg b) (hs : swapsWithSole [tg] e pos.line X.env = pure false := by rfl) (hw : swappedStores [tg] e X.env = pure none := by rfl)
    (h1 : (assignEach [tg] X.env).map (·.2) = [assign tg X.env] := by rfl) : SS c W fx X (.Assign [tg] e pos) (sSetT b f) := by
  refine PS.weak (ps_asg h hg hs hw h1) fun D σ H q => ?_
  refine tS.expr (rel := relE c) q fun v x ρ1 H1 F1 a e g d r re p => ?_
  cases hb : b v ρ1 with
  | none => simp only [hb] at p; exact p.elim
  | some ρ2 =>
    simp only [hb] at p
    exact ⟨v, ρ1, F1, a, e, g, d, r, re, ρ2, hb, fun σ' H' F' e' t g' r' k => p σ' H' F' e' t g' r' k⟩
end

/-! ### what is walked -/
structure Src (c : RC) (J : It) (P : Hp → AS → Prop) (t : AS) (xs : List PV) : Prop where
  len : xs.length ≤ big
  go : ∀ i H F, P H F → i < xs.length → J.go i H
  stop : ∀ H F, P H F → J.stop xs.length H
  yld : ∀ i H F x H' z, P H F → Good H F Emp → J.yld i H x H' → xs[i]? = some z → Stp H F Emp H' F Emp ∧ R c H' F z x Emp
  step : ∀ H F A H' F' A', P H F → Good H F A → Stp H F A H' F' A' → Dis t A → P H' F'
section
variable {c : RC} {W : WX} {fx fx' : Nat → Bool} {b : BF} {s : SF}
theorem Keep.of {σ σ' : L2.St} (h : Keep fx' σ σ') (l : ∀ i, fx i = true → fx' i = true) : Keep fx σ σ' := ⟨fun i z => h.at_ i (l i z), h.len⟩
/-- the turns of a for; gv: what is done with the slots at the end -/
theorem loop_ok {J : It} {P : Hp → AS → Prop} {t : AS} {xs : List PV} {gv : Env → Env} {D : Ends} {σ0 : L2.St} (S : Src c J P t xs) (le : ∀ i, fx i = true → fx' i = true)
    (hgv : ∀ {σ : L2.St} {H : Hp} {F e : AS} {ρ : Env}, P H F → Good H F (Uni t e) → Dis t e → RE c H F ρ σ e → Keep fx' σ0 σ → RE c H F (gv ρ) σ (Uni t e))
    {σ : L2.St} {H : Hp} {F e : AS} {ρ : Env} (p0 : P H F) (g0 : Good H F (Uni t e)) (d0 : Dis t e) (e0 : RE c H F ρ σ e) (k0 : Keep fx' σ0 σ) (q0 : PostS c W fx σ H F (Uni t e) (after (loop b s xs ρ) gv) D) :
    ∃ Wv : Nat → Nat → L2.St → Hp → Prop, (∃ m, Wv 0 m σ H) ∧ ∀ i m σ H, Wv i m σ H →
      (J.stop i H ∧ D.nx σ H) ∨ (J.go i H ∧ ∃ N : L2.St → Hp → Prop, (∀ σ' H', N σ' H' → ∃ m', m' < m ∧ Wv (i + 1) m' σ' H') ∧ ∀ x H', J.yld i H x H' → tGt c fx' b x σ H' fun σ2 H2 => tS c W fx' s { D with nx := N, ct := N, bk := D.nx } σ2 H2) := by
  refine ⟨fun i m σ H => m = xs.length - i ∧ i ≤ xs.length ∧ ∃ ρ F e, P H F ∧ Good H F (Uni t e) ∧ Dis t e ∧ RE c H F ρ σ e ∧ Keep fx' σ0 σ ∧ PostS c W fx σ H F (Uni t e) (after (loop b s (xs.drop i) ρ) gv) D,
    ⟨xs.length, rfl, Nat.zero_le _, ρ, F, e, p0, g0, d0, e0, k0, q0⟩, ?_⟩
  rintro i m σ H ⟨rfl, hi, ρ, F, e, p, g, d, re, kp, q⟩
  by_cases hlt : i < xs.length
  · have hd : xs.drop i = xs[i] :: xs.drop (i + 1) := List.drop_eq_getElem_cons hlt
    rw [hd, loop] at q
    refine .inr ⟨S.go i H F p hlt, fun σ' H' => ∃ ρ F e, P H' F ∧ Good H' F (Uni t e) ∧ Dis t e ∧ RE c H' F ρ σ' e ∧ Keep fx' σ0 σ' ∧ PostS c W fx σ' H' F (Uni t e) (after (loop b s (xs.drop (i + 1)) ρ) gv) D,
      fun σ' H' h => ⟨xs.length - (i + 1), by omega, rfl, hlt, h⟩, fun x H1 y => ?_⟩
    obtain ⟨s1, rx⟩ := S.yld i H F x H1 xs[i] p (g.sub Sub.emp) y (List.getElem?_eq_getElem hlt)
    cases hb : b xs[i] ρ with
    | none => simp only [hb, after] at q; exact q.elim
    | some ρ1 =>
      simp only [hb] at q
      have gE : Good H F Emp := g.sub Sub.emp
      have g1E : Good H1 F Emp := ⟨fun _ z => z.elim, fun q z => by
        obtain ⟨o, eo⟩ := g.fro q z
        exact ⟨o, s1.keep q o eo id⟩⟩
      have g1 : Good H1 F (Uni t e) := g.kept s1 g1E Dis.empr
      have p1 : P H1 F := S.step _ _ _ _ _ _ p gE s1 Dis.empr
      have re1 := re.step gE s1 Dis.empr
      refine ⟨xs[i], ρ, F, Emp, e, g1.sub (Sub.uni Sub.emp Sub.r), Dis.empl, rx, re1, ρ1, hb, fun σ2 H2 F2 e2 t2 g2 r2 k2 => ?_⟩
      have dte : Dis t (Uni Emp e) := fun q y z => z.elim (fun z => z) (d q y)
      have gt : Good H1 F t := g1.sub Sub.l
      have gt2 := gt.kept t2 g2 dte
      have d2 := t2.apart gt dte
      have p2 : P H2 F2 := S.step _ _ _ _ _ _ p1 (g1.sub (Sub.uni Sub.emp Sub.r)) t2 dte
      have big : Stp H F (Uni t e) H2 F2 (Uni t e2) := by
        have a1 := ((s1.frame (B := Uni t e)).more (Sub.uni (Sub.refl _) Sub.emp)).drop (B := Uni t (Uni Emp e)) (Sub.uni (Sub.l.trans Sub.l) (Sub.uni Sub.emp (Sub.r.trans Sub.l)))
        exact a1.trans t2.frame
      have q2 := q.base big (k2.of le)
      have k02 := kp.trans k2
      refine ⟨ρ1, F2, e2, g2, r2, ?_⟩
      have stay : ∀ {σ3 : L2.St} {H3 : Hp} {F3 e3 : AS}, Stp H2 F2 e2 H3 F3 e3 → Good H3 F3 e3 → Keep fx' σ2 σ3 → P H3 F3 ∧ Good H3 F3 (Uni t e3) ∧ Dis t e3 ∧ Stp H2 F2 (Uni t e2) H3 F3 (Uni t e3) ∧ Keep fx' σ0 σ3 := fun t3 g3 k3 =>
        ⟨S.step _ _ _ _ _ _ p2 g2 t3 d2, (gt2.kept t3 g3 d2).uni g3, t3.apart gt2 d2, t3.frame, k02.trans k3⟩
      cases hs : s ρ1 with
      | bad => simp only [hs, after] at q2; exact q2.elim
      | nx ρ3 =>
        simp only [hs] at q2
        intro σ3 H3 F3 e3 t3 g3 r3 k3
        obtain ⟨a1, a2, a3, a4, a5⟩ := stay t3 g3 k3
        exact ⟨ρ3, F3, e3, a1, a2, a3, r3, a5, q2.base a4 (k3.of le)⟩
      | ct ρ3 =>
        simp only [hs] at q2
        intro σ3 H3 F3 e3 t3 g3 r3 k3
        obtain ⟨a1, a2, a3, a4, a5⟩ := stay t3 g3 k3
        exact ⟨ρ3, F3, e3, a1, a2, a3, r3, a5, q2.base a4 (k3.of le)⟩
      | bk ρ3 =>
        simp only [hs, after] at q2
        intro σ3 H3 F3 e3 t3 g3 r3 k3
        obtain ⟨a1, a2, a3, a4, a5⟩ := stay t3 g3 k3
        exact q2 σ3 H3 F3 (Uni t e3) a4 a2 (hgv a1 a2 a3 r3 a5) (k3.of le)
      | rt v ρ3 =>
        simp only [hs, after] at q2
        intro x3 σ3 H3 F3 a e3 t3 g3 dd rv r3 k3
        obtain ⟨a1, a2, a3, a4, a5⟩ := stay t3 g3 k3
        refine q2 x3 σ3 H3 F3 a (Uni t e3) (a4.drop ?_) (a2.sub ?_) ?_ rv (hgv a1 (a2.sub ?_) (fun q y z => a3 q y (.inr z)) r3 a5) (k3.of le)
        · exact Sub.uni (Sub.l.trans Sub.r) (Sub.uni Sub.l (Sub.r.trans Sub.r))
        · exact Sub.uni (Sub.l.trans Sub.r) (Sub.uni Sub.l (Sub.r.trans Sub.r))
        · exact fun q y z => z.elim (fun z => a3 q z (.inl y)) (dd q y)
        · exact Sub.uni Sub.l (Sub.r.trans Sub.r)
      | er x ρ3 =>
        simp only [hs, after] at q2
        intro cls dd σ3 H3 F3 e3 t3 g3 rx r3 k3
        obtain ⟨a1, a2, a3, a4, a5⟩ := stay t3 g3 k3
        exact q2 cls dd σ3 H3 F3 (Uni t e3) a4 a2 rx (hgv a1 a2 a3 r3 a5) (k3.of le)
  · have ei : i = xs.length := by omega
    subst ei
    rw [List.drop_length, loop] at q
    exact .inl ⟨S.stop H F p, q σ H F (Uni t e) Stp.refl g (hgv p g d re kp) Keep.refl⟩
end

/-! ### sources -/
section
variable {X : Cx} {c : RC} {W : WX} {fx : Nat → Bool} {tg it : Expr} {b : BF} {s : SF} {pos : Pos} {body : List Stmt} {f : EF} {w : IF}
def relS (c : RC) : Hp → AS → List PV → It → AS → Prop := fun H F xs J _ => ∃ P : Hp → AS → Prop, P H F ∧ Src c J P Emp xs
def SI (X : Cx) (c : RC) (W : WX) (tg it : Expr) (w : IF) : Prop := PI X tg it (tG c W (relS c) w)
theorem PI.weak {t t' : TI} (h : PI X tg it t) (k : ∀ σ H Q, t' σ H Q → t σ H Q) : PI X tg it t' := ⟨fun pins s σ H R I q => h.run pins s σ H R I (k σ H R q)⟩
theorem PI.or {t t' : TI} (h : PI X tg it t) (h' : PI X tg it t') : PI X tg it (fun σ H Q => t σ H Q ∨ t' σ H Q) := ⟨fun pins s σ H R I q => q.elim (h.run pins s σ H R I) (h'.run pins s σ H R I)⟩
theorem Rs.getV {H : Hp} {F : AS} {xs : List PV} {vs : List V} {i : Nat} {z : PV} {x : V} (r : Rs c H F xs vs Emp) (h : xs[i]? = some z) (hx : vs[i]? = some x) : R c H F z x Emp := by
  obtain ⟨v, b, h1, h2, h3⟩ := r.get h
  rw [h1] at hx; cases hx
  exact R.mono h3 h2
theorem src_list {p : Addr} {xs : List PV} {vs : List V} (l : xs.length ≤ big) : Src c (Itl c.K p) (fun H F => FzL H F p vs ∧ Rs c H F xs vs Emp) Emp xs where
  len := l
  go := fun i H F h l => ⟨vs, vs[i]'(by rw [h.2.len]; exact l), .inl h.1.1, List.getElem?_eq_getElem _⟩
  stop := fun H F h => ⟨vs, .inl h.1.1, by rw [h.2.len]; exact Nat.le_refl _⟩
  yld := fun i H F x H' z h g y e => by
    obtain ⟨rfl, y⟩ := y
    exact ⟨Stp.refl, h.2.getV e (y vs (.inl h.1.1))⟩
  step := fun H F A H' F' A' h g s d => ⟨h.1.step g s, h.2.step g s Dis.empl⟩
theorem src_tup {p : Addr} {xs : List PV} {vs : List V} (l : xs.length ≤ big) : Src c (Itt c.K p) (fun H F => SqT c.K H p vs ∧ Rs c H F xs vs Emp) Emp xs where
  len := l
  go := fun i H F h l => ⟨vs, vs[i]'(by rw [h.2.len]; exact l), h.1, List.getElem?_eq_getElem _⟩
  stop := fun H F h => ⟨vs, h.1, by rw [h.2.len]; exact Nat.le_refl _⟩
  yld := fun i H F x H' z h g y e => by
    obtain ⟨rfl, y⟩ := y
    exact ⟨Stp.refl, h.2.getV e (y vs h.1)⟩
  step := fun H F A H' F' A' h g s d => ⟨SqT.step g s h.1, h.2.step g s Dis.empl⟩
theorem src_range {lo : Int} {n : Nat} (l : n ≤ big) : Src c (Itr lo n) (fun _ _ => True) Emp ((List.range n).map fun i => .int (lo + (i : Nat))) where
  len := by rw [List.length_map, List.length_range]; exact l
  go := fun i H F _ l => by rw [List.length_map, List.length_range] at l; exact l
  stop := fun H F _ => by rw [List.length_map, List.length_range]; exact Nat.le_refl _
  yld := fun i H F x H' z _ g y e => by
    obtain ⟨rfl, rfl⟩ := y
    rw [List.getElem?_map] at e
    cases q : (List.range n)[i]? with
    | none => rw [q] at e; cases e
    | some j =>
      rw [q] at e; cases e
      have : j = i := by
        obtain ⟨h1, h2⟩ := List.getElem?_eq_some_iff.mp q
        rw [List.getElem_range] at h2
        exact h2.symm
      subst this
      exact ⟨Stp.refl, rfl⟩
  step := fun _ _ _ _ _ _ _ _ _ _ => trivial
/-- a list or a tuple, which is frozen -/
theorem si_e (hK : X.K = c.K) (h : SE X c W it f) : SI X c W tg it (iE f) := by
  refine PI.weak (PI.or (pi_list (tg := tg) h) (pi_tup (tg := tg) h)) fun σ H Q q => ?_
  obtain ⟨ρ, F, A, g, e, p⟩ := q
  unfold iE at p
  cases q : f ρ with
  | bad => simp only [q] at p; exact p.elim
  | er x ρ1 =>
    simp only [q] at p
    refine .inl ⟨ρ, F, A, g, e, ?_⟩
    rw [q]; exact p
  | ok v ρ1 =>
    simp only [q, Res.bind_ok] at p
    have fin : ∀ {x : V} {H1 : Hp} {F1 a b : AS} {J : It} {P : Hp → AS → Prop} {xs : List PV}, items (frz v) = some xs → Stp H F A H1 F1 (Uni a b) → Good H1 F1 (Uni a b) → Dis a b → R c H1 F1 v x a → RE c H1 F1 ρ1 σ b → (R c H1 (Uni F1 a) (frz v) x Emp → P H1 (Uni F1 a)) → Src c J P Emp xs → Q J H1 := by
      intro x H1 F1 a b J P xs hi s g1 d r e1 hp S
      rw [hi] at p
      have st : Sub (Uni Emp b) (fun q => Uni a b q ∧ ¬ a q) := Sub.uni Sub.emp fun q y => ⟨.inr y, fun z => d q z y⟩
      exact p J H1 (Uni F1 a) Emp b (s.trans ((Stp.freeze Sub.l).drop st)) ((g1.freeze Sub.l).sub st) Dis.empl ⟨P, hp (R.frz (R.up Sub.l r) fun _ z => .inr z), S⟩ (e1.up Sub.l)
    cases v with
    | lst w' xs =>
      refine .inl ⟨ρ, F, A, g, e, ?_⟩
      rw [q]
      intro x H1 F1 a b s g1 d r e1
      obtain ⟨pp, vs, bb, rfl, q1, l, _, rs⟩ := r.lstR
      rw [hK]
      refine ⟨pp, rfl, ⟨vs, .inl q1⟩, ?_⟩
      exact fin (P := fun H F => FzL H F pp vs ∧ Rs c H F (frzs xs) vs Emp) (by rw [frz]; rfl) s g1 d r e1 (fun rr => by
        rw [frz] at rr
        obtain ⟨p2, vs2, e2, ⟨q2, _⟩, rs2⟩ := rr
        cases e2
        rcases q1 with q1 | ⟨o, q1⟩
        · rcases q2.1 with q3 | ⟨o', q3⟩
          · rw [q1] at q3; cases q3; exact ⟨q2, rs2⟩
          · rw [q1] at q3; cases q3
        · rcases q2.1 with q3 | ⟨o', q3⟩
          · rw [q1] at q3; cases q3
          · rw [q1] at q3; cases q3; exact ⟨q2, rs2⟩) (src_list (by rw [frzs_eq, List.length_map]; exact l))
    | tup xs =>
      refine .inr ⟨ρ, F, A, g, e, ?_⟩
      rw [q]
      intro x H1 F1 a b s g1 d r e1
      obtain ⟨pp, vs, rfl, q1, l, rs⟩ := r.tupR
      rw [hK]
      refine ⟨pp, rfl, ⟨vs, q1⟩, ?_⟩
      exact fin (P := fun H F => SqT c.K H pp vs ∧ Rs c H F (frzs xs) vs Emp) (by rw [frz]; rfl) s g1 d r e1 (fun _ => ⟨q1, Rs.frz (rs.up Sub.l) fun _ z => .inr z⟩) (src_tup (by rw [frzs_eq, List.length_map]; exact l))
    | _ => simp only [frz, items, Res.of_none] at p; exact p.elim
theorem si_range1 {a : Expr} {p : Pos} (hg : Gl X "range") (hm : X.mg "range" = none) (h : SE X c W a f) (hs : starEach [a] X.env = [(false, eval a X.env)] := by rfl) (st : starEach [a] X.env = (false, eval a X.env) :: starEach [] X.env := by rfl) : SI X c W tg (.Call (.Name "range" p) [a] [] pos) (iRange1 f) := by
  refine PI.weak (pi_range1 hg hm (pa_cons h pa_nil st) hs) fun σ H Q q => ?_
  refine tG.bind (rel := relE c) q fun v x ρ1 H1 F1 a b g d r e p => ?_
  cases v with
  | int n =>
    simp only at p
    split at p
    · rename_i hb
      simp only [Bool.and_eq_true, decide_eq_true_eq] at hb
      have S := src_range (c := c) (lo := 0) (n := n.toNat) hb.2
      simp only [Int.zero_add] at S
      exact ⟨n, by rw [show x = V.int n from r], hb.1.1, hb.1.2, p.now g Sub.r ⟨_, trivial, S⟩ e⟩
    · exact p.elim
  | _ => exact p.elim
theorem si_range2 {a a2 : Expr} {f2 : EF} {p : Pos} (hg : Gl X "range") (hm : X.mg "range" = none) (h : SE X c W a f) (h2 : SE X c W a2 f2) (hs : starEach [a, a2] X.env = [(false, eval a X.env), (false, eval a2 X.env)] := by rfl) (hs2 : starEach [a2] X.env = [(false, eval a2 X.env)] := by rfl)
    (st : starEach [a, a2] X.env = (false, eval a X.env) :: starEach [a2] X.env := by rfl) (st2 : starEach [a2] X.env = (false, eval a2 X.env) :: starEach [] X.env := by rfl) : SI X c W tg (.Call (.Name "range" p) [a, a2] [] pos) (iRange2 f f2) := by
  refine PI.weak (pi_range2 hg hm (pa_cons h (pa_cons h2 pa_nil st2) st) hs hs2) fun σ H Q q => ?_
  refine tG.bind (rel := relE c) q fun v x ρ1 H1 F1 a b g d r e p => ?_
  refine tG.next (rel := relE c) (t := a) g Sub.l Sub.r d e p fun v2 x2 ρ2 H2 F2 a2 b2 g2 d2 d3 r2 e2 s2 p2 => ?_
  cases v with
  | int m =>
    cases v2 with
    | int n =>
      simp only at p2
      split at p2
      · rename_i hb
        simp only [Bool.and_eq_true, decide_eq_true_eq] at hb
        exact ⟨m, n, by rw [show x = V.int m from r, show x2 = V.int n from r2], ⟨hb.1.1.1.1, hb.1.1.1.2, hb.1.1.2, hb.1.2⟩, p2.now g2 (Sub.r.trans Sub.r) ⟨_, trivial, src_range hb.2⟩ e2⟩
      · exact p2.elim
    | _ => exact p2.elim
  | _ => exact p2.elim
/-- for target in ..: body -/
theorem ss_for {k : Nat} (D : Dk X c W k) (hi : SI X c W tg it w) (hg : SG c fx X tg b) (hb : SSs c W fx X body s) (hs : ∀ x, foldedSetIterable it X.env x = pure x := by intro _; rfl) : SS c W fx X (.For tg it body [] pos) (sFor w b s) := by
  refine PS.weak (ps_for D.po D.calm hi hg hb hs) fun D σ H q => ?_
  refine tS.expr (rel := relS c) q fun xs J ρ1 H1 F1 a e g d r re p => ?_
  obtain ⟨P, hp, S⟩ := r
  have p' : PostS c W fx σ H1 F1 (Uni Emp e) (after (loop b s xs ρ1) id) D := by
    have h := p.sub (show Sub (Uni Emp e) (Uni a e) from Sub.uni Sub.emp Sub.r)
    have ea : ∀ r, after r id = r := fun r => by cases r <;> rfl
    rw [ea]; exact h
  exact loop_ok (fx := fx) (fx' := fx) (gv := id) S (fun _ h => h) (fun _ _ _ re _ => re.mono Sub.r) hp (g.sub (Sub.uni Sub.emp Sub.r)) Dis.empl re Keep.refl p'
/-- over a list that stands in a slot; the slot isn't asked for within -/
theorem ss_forN {k i : Nat} {fx' : Nat → Bool} (D : Dk X c W k) (hv : PE X it (tVar i)) (le : ∀ j, fx j = true → fx' j = true) (hfi : fx' i = true) (hg : SG c fx' X tg b) (hb : SSs c W fx' X body s) (hs : ∀ x, foldedSetIterable it X.env x = pure x := by intro _; rfl) : SS c W fx X (.For tg it body [] pos) (sForN i b s) := by
  have hK := D.K
  refine PS.weak (ps_for D.po D.calm (PI.or (pi_list (tg := tg) hv) (pi_tup (tg := tg) hv)) hg hb hs) fun D σ H q => ?_
  obtain ⟨ρ, F, A, g, e, p⟩ := q
  unfold sForN at p
  cases q : slot ρ i with
  | none => simp only [q] at p; exact p.elim
  | some v =>
    simp only [q] at p
    cases qi : items v with
    | none => simp only [qi] at p; exact p.elim
    | some xs =>
      simp only [qi] at p
      split at p
      · rename_i f
        obtain ⟨x, a, d, h1, h2, h3, h4, h5, h6⟩ := e.take q
        have give : ∀ {P : Hp → AS → Prop}, (∀ H F, P H F → R c H F v x a) → ∀ {σ' : L2.St} {H : Hp} {F e : AS} {ρ : Env}, P H F → Good H F (Uni a e) → Dis a e → RE c H F ρ σ' e → Keep fx' σ σ' → RE c H F (ρ.set i (some v)) σ' (Uni a e) := by
          intro P hP σ' H F e ρ hp g dd re kp
          have hx : σ'[i]? = some (some x) := by rw [kp.at_ i hfi]; exact h1
          have := RE.put (re.wipe i) hx (hP _ _ hp) dd
          rwa [List.set_set] at this
        have g2 : Good H F (Uni a d) := g.sub (Sub.uni h2 h3)
        have p2 := p.sub (Sub.uni h2 h3)
        cases v with
        | lst w xs' =>
          cases qi
          obtain ⟨pp, vs, bb, rfl, q1, l, _, rs⟩ := h5.lstR
          have rsE := rs.emp f
          refine .inl ⟨.ref pp, h1, pp, rfl, ⟨vs, by rw [hK]; exact .inl q1⟩, ?_⟩
          rw [hK]
          refine loop_ok (P := fun H F => R c H F (.lst w xs) (.ref pp) a ∧ Rd H pp (.lst vs) ∧ Rs c H F xs vs Emp) (t := a) (gv := fun ρ' => ρ'.set i (some (.lst w xs))) ⟨l, ?_, ?_, ?_, ?_⟩ le (give fun H F (h : R c H F (.lst w xs) (.ref pp) a ∧ Rd H pp (.lst vs) ∧ Rs c H F xs vs Emp) => h.1) ⟨h5, q1, rsE⟩ g2 h4 h6 Keep.refl p2
          · exact fun i H F h l => ⟨vs, vs[i]'(by rw [h.2.2.len]; exact l), .inl h.2.1, List.getElem?_eq_getElem _⟩
          · exact fun H F h => ⟨vs, .inl h.2.1, by rw [h.2.2.len]; exact Nat.le_refl _⟩
          · rintro i H F x H' z h g ⟨rfl, y⟩ e
            exact ⟨Stp.refl, h.2.2.getV e (y vs (.inl h.2.1))⟩
          · intro H F A H' F' A' h g s dd
            have r' := R.step g s h.1 dd
            refine ⟨r', ?_, h.2.2.step g s Dis.empl⟩
            obtain ⟨p2, vs2, b2, e2, q2, _, _, rs2⟩ := h.1.lstR
            cases e2
            cases w with
            | true =>
              obtain ⟨p3, vs3, a3, e3, l3, q3, m3, _⟩ := h.1
              cases e3
              have : Rd H pp (.lst vs3) := .inl q3
              rcases h.2.1 with z | ⟨o, z⟩
              · exact .inl (s.keep _ _ z fun y => dd _ m3 y)
              · rw [q3] at z; cases z
            | false =>
              obtain ⟨p3, vs3, e3, ⟨q3, _⟩, _⟩ := h.1
              cases e3
              rcases h.2.1 with z | ⟨o, z⟩
              · exact .inl (s.keep _ _ z fun y => (g.own _ y).1 q3.2)
              · exact .inr ⟨o, s.keep _ _ z fun y => (g.own _ y).1 q3.2⟩
        | tup xs' =>
          cases qi
          obtain ⟨pp, vs, rfl, q1, l, rs⟩ := h5.tupR
          have rsE := rs.emp f
          refine .inr ⟨.ref pp, h1, pp, rfl, ⟨vs, by rw [hK]; exact q1⟩, ?_⟩
          rw [hK]
          refine loop_ok (P := fun H F => R c H F (.tup xs) (.ref pp) a ∧ SqT c.K H pp vs ∧ Rs c H F xs vs Emp) (t := a) (gv := fun ρ' => ρ'.set i (some (.tup xs))) ⟨l, ?_, ?_, ?_, ?_⟩ le (give fun H F (h : R c H F (.tup xs) (.ref pp) a ∧ SqT c.K H pp vs ∧ Rs c H F xs vs Emp) => h.1) ⟨h5, q1, rsE⟩ g2 h4 h6 Keep.refl p2
          · exact fun i H F h l => ⟨vs, vs[i]'(by rw [h.2.2.len]; exact l), h.2.1, List.getElem?_eq_getElem _⟩
          · exact fun H F h => ⟨vs, h.2.1, by rw [h.2.2.len]; exact Nat.le_refl _⟩
          · rintro i H F x H' z h g ⟨rfl, y⟩ e
            exact ⟨Stp.refl, h.2.2.getV e (y vs h.2.1)⟩
          · exact fun H F A H' F' A' h g s dd => ⟨R.step g s h.1 dd, SqT.step g s h.2.1, h.2.2.step g s Dis.empl⟩
        | _ => cases qi
      · exact p.elim
end
end Tr
set_option Elab.async false
set_option linter.all false
set_option maxRecDepth 100000
set_option maxHeartbeats 4000000
/-! Tr.K: list comprehensions. -/
namespace Tr
open PySem PySem.Spec L2

section
variable {c : RC} {H H' : Hp} {F A : AS}
/-- an owned node is written -/
theorem Stp.put {p : Addr} {o : HO} (h : A p) : Stp H F A (upd H p o) F A := by
  refine ⟨fun q u e n => ?_, fun q e => ?_, fun _ h => h, fun _ h => .inl h, fun _ h => .inr h⟩
  · have : q ≠ p := fun z => n (by rw [z]; exact h)
    rw [upd_ne this]; exact e
  · by_cases z : q = p
    · subst z; rw [upd_same] at e; cases e
    · rw [upd_ne z] at e; exact e
theorem Good.put {p : Addr} {o : HO} (g : Good H F A) (h : A p) (m : Mu o) : Good (upd H p o) F A := by
  refine ⟨fun q y => ?_, fun q y => ?_⟩
  · obtain ⟨n, u, e, mu⟩ := g.own q y
    by_cases z : q = p
    · subst z; exact ⟨n, o, upd_same, m⟩
    · exact ⟨n, u, by rw [upd_ne z]; exact e, mu⟩
  · obtain ⟨u, e⟩ := g.fro q y
    by_cases z : q = p
    · subst z; exact ⟨o, upd_same⟩
    · exact ⟨u, by rw [upd_ne z]; exact e⟩
end

/-! ### the block's slots -/
def fxOwn (own : List Nat) : Nat → Bool := fun i => !own.contains i
theorem wipe_at (σ : L2.St) : ∀ (own : List Nat) (i : Nat), (L2.wipe σ own)[i]? = if i ∈ own ∧ i < σ.length then some none else σ[i]?
  | [], i => by simp [L2.wipe]
  | v :: vs, i => by
    rw [L2.wipe]
    by_cases h : v = i
    · subst h
      by_cases l : v < σ.length
      · rw [List.getElem?_set_self (by rw [wipe_length]; exact l), if_pos ⟨List.mem_cons_self, l⟩]
      · rw [List.getElem?_eq_none (by rw [List.length_set, wipe_length]; omega), if_neg (fun z => l z.2), List.getElem?_eq_none (by omega)]
    · rw [List.getElem?_set_ne h, wipe_at σ vs i]
      have : (i ∈ v :: vs) = (i ∈ vs) := by
        rw [List.mem_cons]
        exact propext ⟨fun z => z.resolve_left fun e => h e.symm, .inr⟩
      simp only [this]
theorem wipe_keep {own : List Nat} {σ σ2 : L2.St} (k : Keep (fxOwn own) σ σ2) : L2.wipe σ2 own = L2.wipe σ own := by
  refine List.ext_getElem? fun i => ?_
  rw [wipe_at, wipe_at, k.len]
  by_cases h : i ∈ own
  · by_cases l : i < σ.length
    · rw [if_pos ⟨h, l⟩, if_pos ⟨h, l⟩]
    · rw [if_neg (fun z => l z.2), if_neg (fun z => l z.2), List.getElem?_eq_none (by rw [k.len]; omega), List.getElem?_eq_none (by omega)]
  · rw [if_neg (fun z => h z.1), if_neg (fun z => h z.1)]
    exact k.at_ i (by unfold fxOwn; simp [h])
theorem wipe_wipe (own : List Nat) (σ : L2.St) : L2.wipe (L2.wipe σ own) own = L2.wipe σ own := by
  refine List.ext_getElem? fun i => ?_
  rw [wipe_at, wipe_at, wipe_length]
  by_cases h : i ∈ own ∧ i < σ.length
  · rw [if_pos h, if_pos h]
  · rw [if_neg h]
section
variable {c : RC} {H H' : Hp} {F A : AS}
theorem RE.wipeσ : ∀ {ρ : Env} {σ : L2.St} {a : AS} (i : Nat), RE c H F (ρ.set i none) σ a → RE c H F (ρ.set i none) (σ.set i none) a
  | [], σ, a, i, h => by rw [show σ = [] from h]; rfl
  | o :: ρ, σ, a, 0, h => by
    obtain ⟨s, σ', e, h⟩ := h
    subst e
    exact ⟨none, σ', rfl, h⟩
  | none :: ρ, σ, a, i + 1, h => by
    obtain ⟨s, σ', e, h⟩ := h
    subst e
    exact ⟨s, _, rfl, RE.wipeσ i h⟩
  | some x :: ρ, σ, a, i + 1, h => by
    obtain ⟨v, σ', b, d, e, s1, s2, k, r, h⟩ := h
    subst e
    exact ⟨v, _, b, d, rfl, s1, s2, k, r, RE.wipeσ i h⟩
theorem RE.wipes : ∀ {ρ : Env} {σ : L2.St} {a : AS} (own : List Nat), RE c H F ρ σ a → RE c H F (wipeE own ρ) (L2.wipe σ own) a
  | _, _, _, [], h => h
  | ρ, σ, a, i :: is, h => RE.wipeσ i ((RE.wipes is h).wipe i)
/-- what σ holds in the block's slots does not matter where they are empty -/
theorem RE.unwipe1 : ∀ {ρ : Env} {σ σ' : L2.St} {a : AS} (i : Nat), RE c H F (ρ.set i none) σ a → σ.length = σ'.length → (∀ j, j ≠ i → σ[j]? = σ'[j]?) → RE c H F (ρ.set i none) σ' a
  | [], σ, σ', a, i, h, l, k => by
    rw [show σ = [] from h] at l
    exact (List.eq_nil_of_length_eq_zero l.symm)
  | o :: ρ, σ, σ', a, 0, h, l, k => by
    obtain ⟨s, σ1, e, h⟩ := h
    subst e
    cases σ' with
    | nil => cases l
    | cons s' σ2 =>
      have : σ1 = σ2 := List.ext_getElem? fun j => by simpa using k (j + 1) (by omega)
      subst this
      exact ⟨s', σ1, rfl, h⟩
  | none :: ρ, σ, σ', a, i + 1, h, l, k => by
    obtain ⟨s, σ1, e, h⟩ := h
    subst e
    cases σ' with
    | nil => cases l
    | cons s' σ2 =>
      exact ⟨s', σ2, rfl, RE.unwipe1 i h (by simpa using l) fun j hj => by simpa using k (j + 1) (by omega)⟩
  | some x :: ρ, σ, σ', a, i + 1, h, l, k => by
    obtain ⟨v, σ1, b, d, e, s1, s2, kk, r, h⟩ := h
    subst e
    cases σ' with
    | nil => cases l
    | cons s' σ2 =>
      have e0 : some v = s' := by simpa using k 0 (by omega)
      subst e0
      exact ⟨v, σ2, b, d, rfl, s1, s2, kk, r, RE.unwipe1 i h (by simpa using l) fun j hj => by simpa using k (j + 1) (by omega)⟩
theorem wipeE_none : ∀ (own : List Nat) (ρ : Env) (i : Nat), i ∈ own → slot (wipeE own ρ) i = none
  | v :: vs, ρ, i, h => by
    rw [wipeE]
    unfold slot
    by_cases e : v = i
    · subst e
      by_cases l : v < (wipeE vs ρ).length
      · rw [List.getElem?_set_self l]; rfl
      · rw [List.getElem?_eq_none (by rw [List.length_set]; omega)]; rfl
    · rw [List.getElem?_set_ne e]
      have := wipeE_none vs ρ i (List.mem_of_ne_of_mem (fun z => e z.symm) h)
      unfold slot at this
      exact this
theorem RE.unwipe : ∀ {ρ : Env} {σ : L2.St} {a : AS} (own : List Nat), RE c H F (wipeE own ρ) (L2.wipe σ own) a → RE c H F (wipeE own ρ) σ a := by
  intro ρ σ a own
  -- one slot after another
  have go : ∀ (pre : List Nat) (σ' : L2.St), (∀ i ∈ pre, i ∈ own) → RE c H F (wipeE own ρ) (L2.wipe σ' pre) a → RE c H F (wipeE own ρ) σ' a := by
    intro pre
    induction pre with
    | nil => intro σ' _ h; exact h
    | cons i is ih =>
      intro σ' hm h
      refine ih σ' (fun j hj => hm j (List.mem_cons_of_mem _ hj)) ?_
      have es : (wipeE own ρ).set i none = wipeE own ρ := by
        refine List.ext_getElem? fun j => ?_
        by_cases e : i = j
        · subst e
          by_cases l : i < (wipeE own ρ).length
          · rw [List.getElem?_set_self l]
            have := wipeE_none own ρ i (hm i List.mem_cons_self)
            unfold slot at this
            rw [List.getElem?_eq_getElem l] at this ⊢
            simp only [Option.join_some] at this
            rw [this]
          · rw [List.getElem?_eq_none (by rw [List.length_set]; omega), List.getElem?_eq_none (by omega)]
        · rw [List.getElem?_set_ne e]
      rw [L2.wipe] at h
      rw [← es] at h ⊢
      refine RE.unwipe1 i h (by rw [List.length_set]) fun j hj => ?_
      rw [List.getElem?_set_ne (fun z => hj z.symm)]
  exact go own σ fun _ h => h
theorem RE.restore {σ : L2.St} {ρ0 : Env} (hr : ∀ i v, slot ρ0 i = some v → fro v = true → ∃ x, σ[i]? = some (some x) ∧ R c H F v x Emp) : ∀ {own : List Nat} {ρ : Env} {a : AS}, RE c H F ρ σ a → RE c H F (Tr.restore own ρ0 ρ) σ a
  | [], _, _, h => h
  | i :: is, ρ, a, h => by
    rw [Tr.restore]
    have ih := RE.restore hr (own := is) h
    cases q : slot ρ0 i with
    | none => simp only; exact ih
    | some v =>
      simp only
      split
      · rename_i f
        obtain ⟨x, e, r⟩ := hr i v q f
        have := RE.put (ih.wipe i) e r Dis.empl
        rw [List.set_set] at this
        exact this.mono (Sub.uni Sub.emp (Sub.refl _))
      · exact ih
end

section
variable {α β ν μ : Type} {c : RC} {W : WX} {rel : Hp → AS → α → ν → AS → Prop} {rel' : Hp → AS → β → μ → AS → Prop} {σ σ0 : L2.St} {H : Hp} {F A : AS}
/-- within a block: no exception; what follows is told at the slots σ0 -/
theorem tG.nextB {W' : WX} {f : Env → Res α} {g : α → Env → Res β} {Q : μ → Hp → Prop} {K : ν → Hp → Prop} {ρ : Env} {t b : AS}
    (gd : Good H F A) (st : Sub t A) (sb : Sub b A) (d : Dis t b) (e : RE c H F ρ σ b) (p : Post c W rel' σ0 H F A ((f ρ).bindB g) Q)
    (k : ∀ v x ρ1 H1 F1 a1 b1, Good H1 F1 (Uni t (Uni a1 b1)) → Dis t (Uni a1 b1) → Dis a1 b1 → rel H1 F1 v x a1 → RE c H1 F1 ρ1 σ b1 → Stp H F b H1 F1 (Uni a1 b1) →
      Post c W rel' σ0 H1 F1 (Uni t (Uni a1 b1)) (g v ρ1) Q → K x H1) : tG c W' rel f σ H K := by
  refine ⟨ρ, F, b, gd.sub sb, e, ?_⟩
  cases q : f ρ with
  | ok v ρ1 =>
    rw [q] at p
    intro x H1 F1 a1 b1 s g1 d1 r e1
    exact k v x ρ1 H1 F1 a1 b1 (((gd.sub st).kept s g1 d).uni g1) (s.apart (gd.sub st) d) d1 r e1 s (Post.base p ((s.frame (B := t)).more (Sub.uni st sb)))
  | er x ρ1 => rw [q] at p; exact p.elim
  | bad => rw [q] at p; exact p.elim
end

section
variable {c : RC} {W : WX} {b : BF} {tst : TF} {f : EF} {own : List Nat}
theorem comp_ok {J : It} {P : Hp → AS → Prop} {t : AS} {xs : List PV} {gv : Env → Env} {σ : L2.St} {Q : VK} (S : Src c J P t xs)
    (hgv : ∀ {H : Hp} {F e : AS} {ρ : Env}, P H F → Good H F (Uni t e) → Dis t e → RE c H F ρ (L2.wipe σ own) e → (∀ i ∈ own, slot ρ i = none) → RE c H F (gv ρ) σ (Uni t e))
    {H : Hp} {F e : AS} {ρ : Env} (p0 : P H F) (g0 : Good H F (Uni t e)) (d0 : Dis t e) (e0 : RE c H F ρ (L2.wipe σ own) e) (o0 : ∀ i ∈ own, slot ρ i = none)
    (q0 : Post c W (relE c) σ H F (Uni t e) ((compL own b tst f xs ρ).bindB fun vs ρ2 => .ok (.lst true vs) (gv ρ2)) Q) {D : Addr} (hD : H D = none) :
    ∃ Wv : Nat → Nat → Hp → Prop, (∃ m, Wv 0 m (upd H D (.lst []))) ∧ ∀ i m H, Wv i m H →
      (J.stop i H ∧ Q (.ref D) H) ∨ (J.go i H ∧ ∃ Nx : Hp → Prop, (∀ H', Nx H' → ∃ m', m' < m ∧ Wv (i + 1) m' H') ∧ ∀ x H', J.yld i H x H' → tGt c (fxOwn own) b x (L2.wipe σ own) H' fun σ2 H2 => L2.wipe σ2 own = L2.wipe σ own ∧
        tTs c W0 tst σ2 H2 fun d H3 => if d = true then tEx c W0 f σ2 H3 fun y H4 => ∃ acc, H4 D = some (.lst acc) ∧ acc.length < sizeLine ∧ Nx (upd H4 D (.lst (acc ++ [y]))) else Nx H3) := by
  let B : AS → AS := fun ad => Uni ad (fun q => q = D)
  let I : Nat → Hp → Prop := fun i H => ∃ ρ F e ad vs acc, P H F ∧ H D = some (.lst acc) ∧ Rs c H F vs acc ad ∧ vs.length ≤ i ∧ Good H F (Uni (Uni t (B ad)) e) ∧ Dis t (Uni (B ad) e) ∧ Dis (B ad) e ∧ ¬ ad D ∧ RE c H F ρ (L2.wipe σ own) e ∧
    (∀ i ∈ own, slot ρ i = none) ∧ Post c W (relE c) σ H F (Uni (Uni t (B ad)) e) ((compL own b tst f (xs.drop i) ρ).bindB fun ws ρ2 => .ok (.lst true (vs ++ ws)) (gv ρ2)) Q
  refine ⟨fun i m H => m = xs.length - i ∧ i ≤ xs.length ∧ I i H, ⟨xs.length, rfl, Nat.zero_le _, ?_⟩, ?_⟩
  · -- the start
    have sn : Stp H F (Uni t e) (upd H D (.lst [])) F (Uni (Uni t e) (fun q => q = D)) := Stp.new hD
    have gn := g0.new hD (o := HO.lst []) trivial
    have nD : ∀ q, Uni t e q → q ≠ D := fun q y z => by
      obtain ⟨_, o, eo, _⟩ := g0.own q y
      rw [z, hD] at eo; cases eo
    have sw : Sub (Uni (Uni t (B Emp)) e) (Uni (Uni t e) (fun q => q = D)) := by
      intro q y
      rcases y with (y | y | y) | y
      · exact .inl (.inl y)
      · exact y.elim
      · exact .inr y
      · exact .inl (.inr y)
    have gE : Good H F Emp := g0.sub Sub.emp
    have sE : Stp H F Emp (upd H D (.lst [])) F Emp := Stp.newT hD
    refine ⟨ρ, F, e, Emp, [], [], S.step _ _ _ _ _ _ p0 gE sE Dis.empr, upd_same, rfl, Nat.le_refl _, gn.sub sw, ?_, ?_, id, e0.step gE sE Dis.empr, o0, ?_⟩
    · exact fun q y z => z.elim (fun z => z.elim False.elim fun z => nD q (.inl y) z) fun z => d0 q y z
    · exact Dis.uni Dis.empl fun q y z => nD q (.inr z) y
    · exact Post.sub (Post.base q0 sn) sw
  · rintro i m H ⟨rfl, hi, ρ, F, e, ad, vs, acc, p, hacc, ra, lv, g, dT, dB, nD, re, ow, q⟩
    by_cases hlt : i < xs.length
    · have hd : xs.drop i = xs[i] :: xs.drop (i + 1) := List.drop_eq_getElem_cons hlt
      rw [hd, compL] at q
      refine .inr ⟨S.go i H F p hlt, I (i + 1), fun H' h => ⟨xs.length - (i + 1), by omega, rfl, hlt, h⟩, fun x H1 y => ?_⟩
      obtain ⟨s1, rx⟩ := S.yld i H F x H1 xs[i] p (g.sub Sub.emp) y (List.getElem?_eq_getElem hlt)
      cases hb : b xs[i] ρ with
      | none => simp only [hb] at q; exact q.elim
      | some ρ1 =>
        simp only [hb] at q
        have gE : Good H F Emp := g.sub Sub.emp
        have g1E : Good H1 F Emp := ⟨fun _ z => z.elim, fun q z => by
          obtain ⟨o, eo⟩ := g.fro q z
          exact ⟨o, s1.keep q o eo id⟩⟩
        have g1 := g.kept s1 g1E Dis.empr
        have p1 : P H1 F := S.step _ _ _ _ _ _ p gE s1 Dis.empr
        have re1 := re.step gE s1 Dis.empr
        have ra1 := ra.step gE s1 Dis.empr
        have hacc1 := s1.keep D _ hacc id
        have b1 : Stp H F (Uni (Uni t (B ad)) e) H1 F (Uni (Uni t (B ad)) e) := ((s1.frame (B := Uni (Uni t (B ad)) e)).more (Sub.uni (Sub.refl _) Sub.emp)).drop Sub.l
        have q1 := Post.base q b1
        refine ⟨xs[i], ρ, F, Emp, e, g1.sub (Sub.uni Sub.emp Sub.r), Dis.empl, rx, re1, ρ1, hb, fun σ2 H2 F2 e2 t2 g2 r2 k2 => ⟨(wipe_keep k2).trans (wipe_wipe _ _), ?_⟩⟩
        have dTe : Dis (Uni t (B ad)) e := Dis.uni (fun q y z => dT q y (.inr z)) dB
        have dTe' : Dis (Uni t (B ad)) (Uni Emp e) := fun q y z => z.elim (fun z => z) (dTe q y)
        have gT1 : Good H1 F (Uni t (B ad)) := g1.sub Sub.l
        have gT2 := gT1.kept t2 g2 dTe'
        have dT2 := t2.apart gT1 dTe'
        have ge1 : Good H1 F (Uni Emp e) := g1.sub (Sub.uni Sub.emp Sub.r)
        have p2 : P H2 F2 := S.step _ _ _ _ _ _ p1 ge1 t2 (fun q y z => dTe' q (.inl y) z)
        have ra2 := ra1.step ge1 t2 (fun q y z => dTe' q (.inr (.inl y)) z)
        have hacc2 := t2.keep D _ hacc1 (fun z => dTe' D (.inr (.inr rfl)) z)
        have q2 := Post.base q1 ((t2.frame (B := Uni t (B ad))).more (show Sub (Uni (Uni t (B ad)) (Uni Emp e)) (Uni (Uni t (B ad)) e) from Sub.uni Sub.l (Sub.uni Sub.emp Sub.r)))
        have q2' : Post c W (relE c) σ H2 F2 (Uni (Uni t (B ad)) e2) ((tst ρ1).bindB fun d ρ2 => ((if d = true then (f ρ2).bindB fun v ρ3 => (compL own b tst f (xs.drop (i + 1)) (wipeE own ρ3)).bindB fun vs ρ4 => .ok (v :: vs) ρ4 else compL own b tst f (xs.drop (i + 1)) (wipeE own ρ2)) : Res (List PV)).bindB fun ws ρ2 => .ok (.lst true (vs ++ ws)) (gv ρ2)) Q := by
          cases hq : tst ρ1 with
          | ok d ρ2 => simp only [hq, Res.bindB_ok] at q2 ⊢; exact q2
          | er _ _ => simp only [hq] at q2; exact q2.elim
          | bad => simp only [hq] at q2; exact q2.elim
        refine tG.nextB (rel := relB) (t := Uni t (B ad)) (b := e2) (gT2.uni g2) Sub.l Sub.r dT2 r2 q2' fun d d' ρ2 H3 F3 a3 e3 g3 dT3 d3 rd r3 s3 q3 => ?_
        cases (show d' = d from rd)
        have ge2 : Good H2 F2 e2 := g2
        have p3 : P H3 F3 := S.step _ _ _ _ _ _ p2 ge2 s3 (fun q y z => dT2 q (.inl y) z)
        have ra3 := ra2.step ge2 s3 (fun q y z => dT2 q (.inr (.inl y)) z)
        have hacc3 := s3.keep D _ hacc2 (fun z => dT2 D (.inr (.inr rfl)) z)
        have se3 : Sub e3 (Uni a3 e3) := Sub.r
        cases d with
        | false =>
          rw [if_neg Bool.false_ne_true] at q3 ⊢
          have wr := r3.wipes own
          rw [(wipe_keep k2).trans (wipe_wipe _ _)] at wr
          refine ⟨wipeE own ρ2, F3, e3, ad, vs, acc, p3, hacc3, ra3, Nat.le_succ_of_le lv, g3.sub (Sub.uni Sub.l (Sub.r.trans Sub.r)), ?_, ?_, nD, wr, fun i h => wipeE_none own _ i h, Post.sub q3 (Sub.uni Sub.l (Sub.r.trans Sub.r))⟩
          · exact fun q y z => z.elim (fun z => dT q y (.inl z)) fun z => dT3 q (.inl y) (.inr z)
          · exact fun q y z => dT3 q (.inr y) (.inr z)
        | true =>
          rw [if_pos rfl] at q3 ⊢
          have q3' : Post c W (relE c) σ H3 F3 (Uni (Uni t (B ad)) (Uni a3 e3)) ((f ρ2).bindB fun v ρ3 => (compL own b tst f (xs.drop (i + 1)) (wipeE own ρ3)).bindB fun ws ρ2 => .ok (.lst true (vs ++ v :: ws)) (gv ρ2)) Q := by
            cases hq : f ρ2 with
            | ok v ρ3 =>
              simp only [hq, Res.bindB_ok] at q3 ⊢
              cases hq2 : compL own b tst f (xs.drop (i + 1)) (wipeE own ρ3) with
              | ok ws ρ4 => simp only [hq2, Res.bindB_ok] at q3 ⊢; exact q3
              | er _ _ => simp only [hq2] at q3; exact q3.elim
              | bad => simp only [hq2] at q3; exact q3.elim
            | er _ _ => simp only [hq] at q3; exact q3.elim
            | bad => simp only [hq] at q3; exact q3.elim
          have dT3e : Dis (Uni t (B ad)) e3 := fun q y z => dT3 q y (.inr z)
          refine tG.nextB (rel := relE c) (t := Uni t (B ad)) (b := e3) g3 Sub.l (Sub.r.trans Sub.r) dT3e r3 q3' fun v yv ρ3 H4 F4 a4 e4 g4 dT4 d4 rv r4 s4 q4 => ?_
          have ge3 : Good H3 F3 e3 := g3.sub (Sub.r.trans Sub.r)
          have p4 : P H4 F4 := S.step _ _ _ _ _ _ p3 ge3 s4 (fun q y z => dT3e q (.inl y) z)
          have ra4 := ra3.step ge3 s4 (fun q y z => dT3e q (.inr (.inl y)) z)
          have hacc4 := s4.keep D _ hacc3 (fun z => dT3e D (.inr (.inr rfl)) z)
          have lacc : acc.length < sizeLine := by
            rw [ra4.len]
            exact Nat.lt_of_le_of_lt lv (Nat.lt_of_lt_of_le hlt S.len)
          refine ⟨acc, hacc4, lacc, ?_⟩
          -- the new item
          have inD : Uni (Uni t (B ad)) (Uni a4 e4) D := .inl (.inr (.inr rfl))
          have sp : Stp H4 F4 (fun q => q = D) (upd H4 D (.lst (acc ++ [yv]))) F4 (fun q => q = D) := Stp.put rfl
          have gD : Good H4 F4 (fun q => q = D) := g4.sub fun q z => by rw [z]; exact inD
          have tD : ∀ {a : AS}, ¬ a D → Dis a (fun q => q = D) := fun n q y z => n (by rw [← z]; exact y)
          have ntD : ¬ t D := fun z => dT D z (.inl (.inr rfl))
          have na4 : ¬ a4 D := fun z => dT4 D (.inr (.inr rfl)) (.inl z)
          have ne4 : ¬ e4 D := fun z => dT4 D (.inr (.inr rfl)) (.inr z)
          have wr := (r4.step gD sp (tD ne4)).wipes own
          rw [(wipe_keep k2).trans (wipe_wipe _ _)] at wr
          have rn : Rs c (upd H4 D (.lst (acc ++ [yv]))) F4 (vs ++ [v]) (acc ++ [yv]) (Uni ad a4) := Rs.append (ra4.step gD sp (tD nD)) (Rs.one (R.step gD sp rv (tD na4))) (fun q y z => dT4 q (.inr (.inl y)) (.inl z))
          have sw : Sub (Uni (Uni t (B (Uni ad a4))) e4) (Uni (Uni t (B ad)) (Uni a4 e4)) := by
            intro q y
            rcases y with (y | (y | y) | y) | y
            · exact .inl (.inl y)
            · exact .inl (.inr (.inl y))
            · exact .inr (.inl y)
            · exact .inl (.inr (.inr y))
            · exact .inr (.inr y)
          have g5 := g4.put (o := .lst (acc ++ [yv])) inD trivial
          have q5 := Post.sub (Post.base q4 (Stp.put (o := .lst (acc ++ [yv])) inD)) sw
          refine ⟨wipeE own ρ3, F4, e4, Uni ad a4, vs ++ [v], acc ++ [yv], S.step _ _ _ _ _ _ p4 gD sp (tD ntD), upd_same, rn, ?_, g5.sub sw, ?_, ?_, fun z => z.elim nD na4, wr, fun i h => wipeE_none own _ i h, ?_⟩
          · rw [List.length_append, List.length_singleton]; exact Nat.succ_le_succ lv
          · intro q y z
            rcases z with ((z | z) | z) | z
            · exact dT q y (.inl (.inl z))
            · exact dT4 q (.inl y) (.inl z)
            · exact dT q y (.inl (.inr z))
            · exact dT4 q (.inl y) (.inr z)
          · intro q y z
            rcases y with (y | y) | y
            · exact dT4 q (.inr (.inl y)) (.inr z)
            · exact d4 q y z
            · exact dT4 q (.inr (.inr y)) (.inr z)
          · have ea : ∀ ws, vs ++ [v] ++ ws = vs ++ v :: ws := fun ws => by rw [List.append_assoc]; rfl
            simp only [ea]
            exact q5
    · have ei : i = xs.length := by omega
      subst ei
      rw [List.drop_length, compL, Res.bindB_ok, List.append_nil] at q
      refine .inl ⟨S.stop H F p, ?_⟩
      have gte : Good H F (Uni t e) := g.sub (Sub.uni (Sub.l.trans Sub.l) Sub.r)
      have dte : Dis t e := fun q y z => dT q y (.inr z)
      have ref := hgv p gte dte re ow
      have lb : vs.length ≤ big := Nat.le_trans lv S.len
      refine q (.ref D) H F (B ad) (Uni t e) (Stp.refl.drop ?_) (g.sub ?_) ?_ ⟨D, acc, ad, rfl, lb, hacc, .inr rfl, nD, Sub.l, ra⟩ ref
      · exact Sub.uni (Sub.r.trans Sub.l) (Sub.uni (Sub.l.trans Sub.l) Sub.r)
      · exact Sub.uni (Sub.r.trans Sub.l) (Sub.uni (Sub.l.trans Sub.l) Sub.r)
      · exact fun q y z => z.elim (fun z => dT q z (.inl y)) (dB q y)
end

section
variable {X : Cx} {c : RC} {W : WX} {tg it elt : Expr} {ifs : List Expr} {scope : Scope} {own : List (Str × Nat)} {pos : Pos} {w : IF} {b : BF} {tst : TF} {f : EF} {i : Nat}
/-- the target, the test and the element, within the block -/
structure Blk (X : Cx) (c : RC) (tg elt : Expr) (ifs : List Expr) (scope : Scope) (own : List (Str × Nat)) (b : BF) (tst : TF) (f : EF) : Prop where
  ok : BlkOk X.N X.env.scope scope own
  g : ∀ (s : Shared) (H : Hp) (C : Addr) (cl : List (Str × Addr)) (fp : List Addr), SG c (fxOwn (own.map (·.2))) (X.blk s H scope (compEnvC scope cl C X.env) fp) tg b
  t : ∀ (s : Shared) (H : Hp) (C : Addr) (cl : List (Str × Addr)) (fp : List Addr), PTs (X.blk s H scope (compEnvC scope cl C X.env) fp) ifs (tTs c W0 tst)
  e : ∀ (s : Shared) (H : Hp) (C : Addr) (cl : List (Str × Addr)) (fp : List Addr), SE (X.blk s H scope (compEnvC scope cl C X.env) fp) c W0 elt f
theorem PTs.weak {t t' : TT} (h : PTs X ifs t) (k : ∀ σ H Q, t' σ H Q → t σ H Q) : PTs X ifs t' := ⟨fun pins s σ H Q I q => h.run pins s σ H Q I (k σ H Q q)⟩
theorem pts_yes : PTs X [] (tTs c W Tr.tYes) := PTs.weak pts_nil fun σ H Q ⟨ρ, F, A, g, e, p⟩ => p.now g (Sub.refl _) rfl e
theorem pts_st {d : Expr} (h : ST X c W d tst) : PTs X [d] (tTs c W tst) := pts_one h
/-- what the slots held, where it was frozen, they hold -/
theorem look_emp {σ : L2.St} {H : Hp} {F a : AS} {ρ : Env} (e : RE c H F ρ σ a) : ∀ i v, slot ρ i = some v → fro v = true → ∃ x, σ[i]? = some (some x) ∧ R c H F v x Emp := fun i v h f => by
  obtain ⟨x, b, h1, _, h3⟩ := e.look h
  exact ⟨x, h1, R.emp h3 f⟩
theorem comp_q {k : Nat} {elt tg it : Expr} {σ : L2.St} {H : Hp} {Q : VK} (q : tEx c W (eComp (own.map (·.2)) w b tst f) σ H Q) :
    tLc (tG c W (relS c) w) (tGt c (fxOwn (own.map (·.2))) b) (tTs c W0 tst) (tEx c W0 f) (own.map (·.2)) σ H Q := by
  refine tG.bind (rel := relS c) q fun xs J ρ1 H1 F1 a e g d r re p D hD => ?_
  obtain ⟨P, hp, S⟩ := r
  have ge : Good H1 F1 (Uni Emp e) := g.sub (Sub.uni Sub.emp Sub.r)
  have rw' := re.wipes (own.map (·.2))
  refine comp_ok (c := c) (W := W) (σ := σ) (P := fun H F => P H F ∧ ∀ i v, slot ρ1 i = some v → fro v = true → ∃ x, σ[i]? = some (some x) ∧ R c H F v x Emp) (t := Emp) (gv := fun ρ2 => restore (own.map (·.2)) ρ1 ρ2)
    ⟨S.len, fun i H F h => S.go i H F h.1, fun H F h => S.stop H F h.1, fun i H F x H' z h => S.yld i H F x H' z h.1, fun H F A H' F' A' h g s d => ⟨S.step _ _ _ _ _ _ h.1 g s d, fun i v e f => ?_⟩⟩ ?_ ⟨hp, look_emp re⟩ ge Dis.empl rw' (fun i h => wipeE_none _ _ i h) (Post.sub p (Sub.uni Sub.emp Sub.r)) hD
  · obtain ⟨x, h1, h2⟩ := h.2 i v e f
    exact ⟨x, h1, R.step g s h2 Dis.empl⟩
  · intro H F e ρ hp g dd re ow
    have es : wipeE (own.map (·.2)) ρ = ρ := by
      have go : ∀ l : List Nat, (∀ i ∈ l, slot ρ i = none) → wipeE l ρ = ρ := by
        intro l
        induction l with
        | nil => intro _; rfl
        | cons j js ih =>
          intro hl
          rw [wipeE, ih fun i h => hl i (List.mem_cons_of_mem _ h)]
          refine List.ext_getElem? fun k => ?_
          by_cases ek : j = k
          · subst ek
            by_cases l : j < ρ.length
            · rw [List.getElem?_set_self l]
              have := hl j List.mem_cons_self
              unfold slot at this
              rw [List.getElem?_eq_getElem l] at this ⊢
              simp only [Option.join_some] at this
              rw [this]
            · rw [List.getElem?_eq_none (by rw [List.length_set]; omega), List.getElem?_eq_none (by omega)]
          · rw [List.getElem?_set_ne ek]
      exact go _ ow
    rw [← es] at re
    have re2 := RE.unwipe _ re
    rw [es] at re2
    exact (RE.restore hp.2 re2).mono Sub.r
theorem se_comp (hc : X.calm = true) (hN : X.N.Nodup) (hi : SI X c W tg it w) (B : Blk X c tg elt ifs scope own b tst f) (hs : ∀ x, foldedSetIterable it X.env x = pure x := by intro _; rfl) :
    SE X c W (.ListComp elt [⟨tg, it, ifs, 0⟩] scope pos) (eComp (own.map (·.2)) w b tst f) :=
  PE.weak (pe_lc hc hN hi B.ok B.g B.t B.e hs) fun σ H Q q => comp_q (k := 0) (elt := elt) (tg := tg) (it := it) q
/-- y = [..] -/
theorem ss_setC {fx : Nat → Bool} {j : Nat} {y : Str} {py spos : Pos} (hc : X.calm = true) (hN : X.N.Nodup) (hy : X.N[j]? = some y) (hyl : X.env.scope.names.lookup y = some .local) (hf : fx j = false)
    (hsw : swapsWith (.ListComp elt [⟨tg, it, ifs, 0⟩] scope pos) (some (.Name y py)) spos.line X.env = pure true) (hi : SI X c W tg it w) (B : Blk X c tg elt ifs scope own b tst f) (hs : ∀ x, foldedSetIterable it X.env x = pure x := by intro _; rfl) :
    SS c W fx X (.Assign [.Name y py] (.ListComp elt [⟨tg, it, ifs, 0⟩] scope pos) spos) (sSet j (eComp (own.map (·.2)) w b tst f)) := by
  refine PS.weak (ps_setLc hc hN hy hyl hsw hi B.ok B.g B.t B.e hs) fun D σ H q => ?_
  refine comp_q (k := 0) (elt := elt) (tg := tg) (it := it) (tS.expr (rel := relE c) q fun v y ρ1 H1 F1 a b g d r e p => ?_)
  exact p.nxt g (Sub.refl _) (e.storeAny r d) (Keep.set hf)
end
end Tr
set_option Elab.async false
set_option linter.all false
set_option maxRecDepth 100000
set_option maxHeartbeats 4000000
/-! Tr.N: comprehensions over a list that stands in a slot. -/
namespace Tr
open PySem PySem.Spec L2
section
variable {X : Cx} {c : RC} {W : WX} {tg it elt : Expr} {ifs : List Expr} {scope : Scope} {own : List (Str × Nat)} {pos : Pos} {b : BF} {tst : TF} {f : EF} {i : Nat}
theorem wipeE_same {l : List Nat} {ρ : Env} (hl : ∀ i ∈ l, slot ρ i = none) : wipeE l ρ = ρ := by
  induction l with
  | nil => rfl
  | cons j js ih =>
    rw [wipeE, ih fun i h => hl i (List.mem_cons_of_mem _ h)]
    refine List.ext_getElem? fun k => ?_
    by_cases ek : j = k
    · subst ek
      by_cases l : j < ρ.length
      · rw [List.getElem?_set_self l]
        have := hl j List.mem_cons_self
        unfold slot at this
        rw [List.getElem?_eq_getElem l] at this ⊢
        simp only [Option.join_some] at this
        rw [this]
      · rw [List.getElem?_eq_none (by rw [List.length_set]; omega), List.getElem?_eq_none (by omega)]
    · rw [List.getElem?_set_ne ek]
theorem RE.full {σ : L2.St} {H : Hp} {F a : AS} {ρ : Env} {l : List Nat} (h : RE c H F ρ (L2.wipe σ l) a) (hl : ∀ i ∈ l, slot ρ i = none) : RE c H F ρ σ a := by
  rw [← wipeE_same hl] at h
  have := RE.unwipe l h
  rwa [wipeE_same hl] at this
/-- what stays true of a list or tuple that is walked -/
theorem seq_stays {v : PV} {x : V} {a : AS} {xs : List PV} (hv : items v = some xs) (f : fros xs = true) {H : Hp} {F : AS} (r : R c H F v x a) :
    ∃ (p : Addr) (vs : List V), x = .ref p ∧ ((∃ w, v = .lst w xs) ∧ Rd H p (.lst vs) ∨ v = .tup xs ∧ SqT c.K H p vs) ∧ xs.length ≤ big ∧ Rs c H F xs vs Emp := by
  cases v with
  | lst w ys =>
    cases hv
    obtain ⟨p, vs, bb, rfl, q1, l, _, rs⟩ := r.lstR
    exact ⟨p, vs, rfl, .inl ⟨⟨w, rfl⟩, q1⟩, l, rs.emp f⟩
  | tup ys =>
    cases hv
    obtain ⟨p, vs, rfl, q1, l, rs⟩ := r.tupR
    exact ⟨p, vs, rfl, .inr ⟨rfl, q1⟩, l, rs.emp f⟩
  | _ => cases hv
theorem rd_step {w : Bool} {xs : List PV} {p : Addr} {vs : List V} {a : AS} {H H' : Hp} {F A F' A' : AS} (g : Good H F A) (s : Stp H F A H' F' A') (d : Dis a A) (r : R c H F (.lst w xs) (.ref p) a) (q : Rd H p (.lst vs)) : Rd H' p (.lst vs) := by
  have na : ¬ A p := by
    cases w with
    | true => obtain ⟨p3, vs3, a3, e3, l3, q3, m3, _⟩ := r; cases e3; exact fun y => d _ m3 y
    | false => obtain ⟨p3, vs3, e3, ⟨q3, _⟩, _⟩ := r; cases e3; exact fun y => (g.own _ y).1 q3.2
  exact q.elim (fun q => .inl (s.keep _ _ q na)) fun ⟨o, q⟩ => .inr ⟨o, s.keep _ _ q na⟩
/-- as a source: the list of a slot, with what it owns on the side -/
theorem src_slot {w : Bool} {xs : List PV} {p : Addr} {vs : List V} {a : AS} {Pr : Hp → AS → Prop} (l : xs.length ≤ big) (hp : ∀ H F A H' F' A', Pr H F → Good H F A → Stp H F A H' F' A' → Pr H' F') :
    Src c (Itl c.K p) (fun H F => (R c H F (.lst w xs) (.ref p) a ∧ Rd H p (.lst vs) ∧ Rs c H F xs vs Emp) ∧ Pr H F) a xs where
  len := l
  go := fun i H F h l => ⟨vs, vs[i]'(by rw [h.1.2.2.len]; exact l), .inl h.1.2.1, List.getElem?_eq_getElem _⟩
  stop := fun H F h => ⟨vs, .inl h.1.2.1, by rw [h.1.2.2.len]; exact Nat.le_refl _⟩
  yld := fun i H F x H' z h g y e => by
    obtain ⟨rfl, y⟩ := y
    exact ⟨Stp.refl, h.1.2.2.getV e (y vs (.inl h.1.2.1))⟩
  step := fun H F A H' F' A' h g s d => ⟨⟨R.step g s h.1.1 d, rd_step g s d h.1.1 h.1.2.1, h.1.2.2.step g s Dis.empl⟩, hp _ _ _ _ _ _ h.2 g s⟩
theorem src_slotT {xs : List PV} {p : Addr} {vs : List V} {a : AS} {Pr : Hp → AS → Prop} (l : xs.length ≤ big) (hp : ∀ H F A H' F' A', Pr H F → Good H F A → Stp H F A H' F' A' → Pr H' F') :
    Src c (Itt c.K p) (fun H F => (R c H F (.tup xs) (.ref p) a ∧ SqT c.K H p vs ∧ Rs c H F xs vs Emp) ∧ Pr H F) a xs where
  len := l
  go := fun i H F h l => ⟨vs, vs[i]'(by rw [h.1.2.2.len]; exact l), h.1.2.1, List.getElem?_eq_getElem _⟩
  stop := fun H F h => ⟨vs, h.1.2.1, by rw [h.1.2.2.len]; exact Nat.le_refl _⟩
  yld := fun i H F x H' z h g y e => by
    obtain ⟨rfl, y⟩ := y
    exact ⟨Stp.refl, h.1.2.2.getV e (y vs h.1.2.1)⟩
  step := fun H F A H' F' A' h g s d => ⟨⟨R.step g s h.1.1 d, SqT.step g s h.1.2.1, h.1.2.2.step g s Dis.empl⟩, hp _ _ _ _ _ _ h.2 g s⟩
def rst (c : RC) (σ : L2.St) (ρ : Env) : Hp → AS → Prop := fun H F => ∀ j u, slot ρ j = some u → fro u = true → ∃ y, σ[j]? = some (some y) ∧ R c H F u y Emp
theorem rst_step {σ : L2.St} {ρ : Env} : ∀ H F A H' F' A', rst c σ ρ H F → Good H F A → Stp H F A H' F' A' → rst c σ ρ H' F' := fun H F A H' F' A' h g s j u e f => by
  obtain ⟨y, h1, h2⟩ := h j u e f
  exact ⟨y, h1, R.step g s h2 Dis.empl⟩
theorem compN_q {σ : L2.St} {H : Hp} {Q : VK} (hi : i ∉ own.map (·.2)) (q : tEx c W (eCompN (own.map (·.2)) i b tst f) σ H Q) :
    tLc (fun σ H R => iList c.K (tVar i) σ H R ∨ iTup c.K (tVar i) σ H R) (tGt c (fxOwn (own.map (·.2))) b) (tTs c W0 tst) (tEx c W0 f) (own.map (·.2)) σ H Q := by
  obtain ⟨ρ, F, A, g, e, p⟩ := q
  unfold eCompN at p
  cases q : slot ρ i with
  | none => simp only [q] at p; exact p.elim
  | some v =>
    simp only [q] at p
    cases qi : items v with
    | none => simp only [qi] at p; exact p.elim
    | some xs =>
      simp only [qi] at p
      split at p
      · rename_i fr
        have hr0 : rst c σ ρ H F := look_emp e
        split at p
        · -- frozen
          rename_i fv
          obtain ⟨x, bb, h1, _, h3⟩ := e.look q
          have r := R.emp h3 fv
          obtain ⟨pp, vs, rfl, hs, l, rs⟩ := seq_stays qi fr r
          have gE : Good H F (Uni Emp A) := g.sub (Sub.uni Sub.emp (Sub.refl _))
          have rw' := e.wipes (own.map (·.2))
          have fin : ∀ {H : Hp} {F e : AS} {ρ2 : Env}, rst c σ ρ H F → Good H F (Uni Emp e) → Dis Emp e → RE c H F ρ2 (L2.wipe σ (own.map (·.2))) e → (∀ j ∈ own.map (·.2), slot ρ2 j = none) → RE c H F (restore (own.map (·.2)) ρ ρ2) σ (Uni Emp e) :=
            fun h _ _ re ow => (RE.restore h (re.full ow)).mono Sub.r
          rcases hs with ⟨⟨w, rfl⟩, q1⟩ | ⟨rfl, q1⟩
          · refine .inl ⟨.ref pp, h1, pp, rfl, ⟨vs, .inl q1⟩, fun D hD => ?_⟩
            exact comp_ok (c := c) (W := W) (σ := σ) (gv := fun ρ2 => restore (own.map (·.2)) ρ ρ2) (src_slot (w := w) (p := pp) (vs := vs) (a := Emp) (Pr := rst c σ ρ) l rst_step) (fun h => fin h.2) ⟨⟨r, q1, rs⟩, hr0⟩ gE Dis.empl rw' (fun j h => wipeE_none _ _ j h) (Post.sub p (Sub.uni Sub.emp (Sub.refl _))) hD
          · refine .inr ⟨.ref pp, h1, pp, rfl, ⟨vs, q1⟩, fun D hD => ?_⟩
            exact comp_ok (c := c) (W := W) (σ := σ) (gv := fun ρ2 => restore (own.map (·.2)) ρ ρ2) (src_slotT (p := pp) (vs := vs) (a := Emp) (Pr := rst c σ ρ) l rst_step) (fun h => fin h.2) ⟨⟨r, q1, rs⟩, hr0⟩ gE Dis.empl rw' (fun j h => wipeE_none _ _ j h) (Post.sub p (Sub.uni Sub.emp (Sub.refl _))) hD
        · -- lent
          obtain ⟨x, a, d, h1, h2, h3, h4, h5, h6⟩ := e.take q
          obtain ⟨pp, vs, rfl, hs, l, rs⟩ := seq_stays qi fr h5
          have g2 : Good H F (Uni a d) := g.sub (Sub.uni h2 h3)
          have rw' := h6.wipes (own.map (·.2))
          have fin : ∀ {H : Hp} {F e : AS} {ρ2 : Env}, R c H F v (.ref pp) a → rst c σ ρ H F → Good H F (Uni a e) → Dis a e → RE c H F ρ2 (L2.wipe σ (own.map (·.2))) e → (∀ j ∈ own.map (·.2), slot ρ2 j = none) → RE c H F ((restore (own.map (·.2)) ρ ρ2).set i (some v)) σ (Uni a e) :=
            fun {H F e ρ2} r h g dd re ow => by
              have := RE.put ((RE.restore (own := own.map (·.2)) h (re.full ow)).wipe i) h1 r dd
              rwa [List.set_set] at this
          rcases hs with ⟨⟨w, rfl⟩, q1⟩ | ⟨rfl, q1⟩
          · refine .inl ⟨.ref pp, h1, pp, rfl, ⟨vs, .inl q1⟩, fun D hD => ?_⟩
            exact comp_ok (c := c) (W := W) (σ := σ) (gv := fun ρ2 => (restore (own.map (·.2)) ρ ρ2).set i (some (.lst w xs))) (src_slot (w := w) (p := pp) (vs := vs) (a := a) (Pr := rst c σ ρ) l rst_step) (fun h => fin h.1.1 h.2) ⟨⟨h5, q1, rs⟩, hr0⟩ g2 h4 rw' (fun j h => wipeE_none _ _ j h) (Post.sub p (Sub.uni h2 h3)) hD
          · refine .inr ⟨.ref pp, h1, pp, rfl, ⟨vs, q1⟩, fun D hD => ?_⟩
            exact comp_ok (c := c) (W := W) (σ := σ) (gv := fun ρ2 => (restore (own.map (·.2)) ρ ρ2).set i (some (.tup xs))) (src_slotT (p := pp) (vs := vs) (a := a) (Pr := rst c σ ρ) l rst_step) (fun h => fin h.1.1 h.2) ⟨⟨h5, q1, rs⟩, hr0⟩ g2 h4 rw' (fun j h => wipeE_none _ _ j h) (Post.sub p (Sub.uni h2 h3)) hD
      · exact p.elim
theorem se_compN (hK : X.K = c.K) (hc : X.calm = true) (hN : X.N.Nodup) (hv : PE X it (tVar i)) (hi : i ∉ own.map (·.2)) (B : Blk X c tg elt ifs scope own b tst f) (hs : ∀ x, foldedSetIterable it X.env x = pure x := by intro _; rfl) :
    SE X c W (.ListComp elt [⟨tg, it, ifs, 0⟩] scope pos) (eCompN (own.map (·.2)) i b tst f) := by
  refine PE.weak (pe_lc hc hN (PI.or (pi_list (tg := tg) hv) (pi_tup (tg := tg) hv)) B.ok B.g B.t B.e hs) fun σ H Q q => ?_
  rw [hK]
  exact compN_q hi q
theorem ss_setCN {fx : Nat → Bool} {j : Nat} {y : Str} {py spos : Pos} (hK : X.K = c.K) (hc : X.calm = true) (hN : X.N.Nodup) (hy : X.N[j]? = some y) (hyl : X.env.scope.names.lookup y = some .local) (hf : fx j = false)
    (hsw : swapsWith (.ListComp elt [⟨tg, it, ifs, 0⟩] scope pos) (some (.Name y py)) spos.line X.env = pure true) (hv : PE X it (tVar i)) (hi : i ∉ own.map (·.2)) (B : Blk X c tg elt ifs scope own b tst f) (hs : ∀ x, foldedSetIterable it X.env x = pure x := by intro _; rfl) :
    SS c W fx X (.Assign [.Name y py] (.ListComp elt [⟨tg, it, ifs, 0⟩] scope pos) spos) (sSet j (eCompN (own.map (·.2)) i b tst f)) := by
  refine PS.weak (ps_setLc hc hN hy hyl hsw (PI.or (pi_list (tg := tg) hv) (pi_tup (tg := tg) hv)) B.ok B.g B.t B.e hs) fun D σ H q => ?_
  rw [hK]
  refine compN_q hi (tS.expr (rel := relE c) q fun v y ρ1 H1 F1 a b g d r e p => ?_)
  exact p.nxt g (Sub.refl _) (e.storeAny r d) (Keep.set hf)
end
end Tr
/-! Tr: what is changed in place, on trees. -/
set_option autoImplicit false
namespace Tr
/-- x.append(e) -/
def sApp (i : Nat) (f : EF) : SF := fun ρ => match slot ρ i with
  | some (.lst _ _) => sOf (f ρ) fun v ρ1 => match slot ρ1 i with
    | some (.lst true xs) => if xs.length < big then .nx (ρ1.set i (some (.lst true (xs ++ [v])))) else .bad
    | _ => .bad
  | _ => .bad
/-- x.extend(e), e new -/
def sExt (i : Nat) (f : EF) : SF := fun ρ => match slot ρ i with
  | some (.lst _ _) => sOf (f ρ) fun v ρ1 => match slot ρ1 i, v with
    | some (.lst true xs), .lst true ys => if xs.length + ys.length ≤ big then .nx (ρ1.set i (some (.lst true (xs ++ ys)))) else .bad
    | _, _ => .bad
  | _ => .bad
/-- x[g] = f -/
def sPutL (i : Nat) (g : EF) (f : EF) : SF := fun ρ => sOf (f ρ) fun v ρ1 => match slot ρ1 i with
  | some _ => sOf (g ρ1) fun k ρ2 => match slot ρ2 i, k with
    | some (.lst true xs), .int k => match ixN xs.length k with
      | some j => .nx (ρ2.set i (some (.lst true (xs.set j v))))
      | none => .bad
    | _, _ => .bad
  | none => .bad
def sPar2 (i j : Nat) (g : AF) : SF := fun ρ => sOf (g ρ) fun vs ρ1 => match vs with
  | [v, w] => .nx ((ρ1.set i (some v)).set j (some w))
  | _ => .bad
def sPar3 (i j k : Nat) (g : AF) : SF := fun ρ => sOf (g ρ) fun vs ρ1 => match vs with
  | [v, w, z] => .nx (((ρ1.set i (some v)).set j (some w)).set k (some z))
  | _ => .bad
end Tr
set_option Elab.async false
set_option linter.all false
set_option maxRecDepth 100000
set_option maxHeartbeats 4000000
/-! Tr.M: what is changed in place. -/
namespace Tr
open PySem PySem.Spec L2
section
variable {c : RC} {H H' : Hp} {F A : AS}
/-- an owned list's items -/
theorem R.own {xs : List PV} {x : V} {a : AS} (r : R c H F (.lst true xs) x a) : ∃ p vs a', x = .ref p ∧ xs.length ≤ big ∧ H p = some (.lst vs) ∧ a p ∧ ¬ a' p ∧ Sub a' a ∧ Rs c H F xs vs a' := r
theorem Rs.setAt {xs : List PV} {vs : List V} {a b : AS} {j : Nat} {x : PV} {v : V} (r : Rs c H F xs vs a) (rx : R c H F x v b) (d : Dis b a) : Rs c H F (xs.set j x) (vs.set j v) (Uni b a) := by
  rcases Nat.lt_or_ge j xs.length with l | l
  · obtain ⟨w, b1, d1, h1, h2, h3, h4, h5, h6⟩ := r.focus (List.getElem?_eq_getElem l)
    exact (h6 H F x v b d1 (fun _ _ _ _ r => r) rx (d.mono (Sub.refl _) h3)).mono (Sub.uni Sub.l (h3.trans Sub.r))
  · rw [List.set_eq_of_length_le l, List.set_eq_of_length_le (by rw [r.len]; exact l)]
    exact r.mono Sub.r
/-- a list in a slot is written anew: its items ys, which own b beside what the other slots own -/
theorem write_slot {σ : L2.St} {e : AS} {ρ : Env} {i : Nat} {p : Addr} {a : AS} {ys : List PV} {ws : List V} (g : Good H F (Uni a e)) (d : Dis a e) (re : RE c H F (ρ.set i none) σ e) (hx : σ[i]? = some (some (.ref p))) (ap : a p) {b : AS} (sb : Sub b a) (nb : ¬ b p)
    (rs : Rs c H F ys ws b) (l : ys.length ≤ big) : Stp H F (Uni a e) (upd H p (.lst ws)) F (Uni a e) ∧ Good (upd H p (.lst ws)) F (Uni a e) ∧ RE c (upd H p (.lst ws)) F (ρ.set i (some (.lst true ys))) σ (Uni a e) := by
  have gp : Good H F (fun q => q = p) := g.sub fun q z => by rw [z]; exact .inl ap
  have sp : Stp H F (fun q => q = p) (upd H p (.lst ws)) F (fun q => q = p) := Stp.put rfl
  have nD : ∀ {t : AS}, ¬ t p → Dis t (fun q => q = p) := fun n q y z => n (by rw [← z]; exact y)
  have re2 := re.step gp sp (nD fun z => d p ap z)
  have rs2 := rs.step gp sp (nD nb)
  refine ⟨Stp.put (.inl ap), g.put (.inl ap) trivial, ?_⟩
  have := RE.put re2 hx (show R c (upd H p (.lst ws)) F (.lst true ys) (.ref p) a from ⟨p, ws, b, rfl, l, upd_same, ap, nb, sb, rs2⟩) d
  rwa [List.set_set] at this
end
section
variable {X : Cx} {c : RC} {W : WX} {fx : Nat → Bool} {i : Nat} {x : Str} {e : Expr} {f : EF} {pos p apos : Pos}
theorem tyv_list {w : Bool} {xs : List PV} {v : V} {a : AS} {H : Hp} {F : AS} (r : R c H F (.lst w xs) v a) : tyV c.K "list" v H := by
  obtain ⟨p, vs, b, rfl, q1, l, _, rs⟩ := r.lstR
  exact .inl ⟨rfl, vs, .inl q1⟩
/-- x.append(e) -/
theorem ss_app (hK : X.K = c.K) (hv : PE X (.Name x p) (tVar i)) (h : SE X c W e f)
    (hbase : attributeBase (.Name x p) "append" X.env (eval (.Name x p) X.env) = eval (.Name x p) X.env := by rfl)
    (hfew : ((backTo pos (starEach (e :: []) X.env)).all (fun x => !x.1) && (backToKw pos (keywordEach [] X.env)).all (fun x => x.1.isSome)
      && decide ((e :: ([] : List Expr)).length + ([] : List Keyword).length + (if ([] : List Keyword).isEmpty then 0 else 1) < 30)) = true := by rfl)
    (hline : (apos.endLine == pos.line) = true := by rfl) (hs : starEach (e :: []) X.env = (false, eval e X.env) :: starEach [] X.env := by rfl) (hplain : (backTo pos (starEach [] X.env)).any (·.1) = false := by rfl) {pos2 : Pos}
    (hsw : swapsWith (.Call (.Attribute (.Name x p) "append" apos) [e] [] pos) none pos2.line X.env = pure false := by rfl) :
    SS c W fx X (.Expr (.Call (.Attribute (.Name x p) "append" apos) [e] [] pos) pos2) (sApp i f) := by
  refine PS.weak (ps_expr (pe_bm PySem.F.plainAttrs_list PySem.F.slot_list_append PySem.F.type_list_append mt_append hv (pa_cons h pa_nil hs) hbase hfew hline hs hplain) hsw) fun D σ H q => ?_
  obtain ⟨ρ, F, A, g, re, p⟩ := q
  unfold sApp at p
  cases q : slot ρ i with
  | none => simp only [q] at p; exact p.elim
  | some v =>
    cases v with
    | lst w0 xs0 =>
      simp only [q] at p
      obtain ⟨x0, b0, h1, _, h3⟩ := re.look q
      refine ⟨x0, h1, by rw [hK]; exact tyv_list h3, ?_⟩
      refine tS.expr (rel := relE c) (fx := fx) (W := W) (D := D) ⟨ρ, F, A, g, re, p⟩ fun v y ρ1 H1 F1 a e g1 d r re1 p1 => ?_
      cases q1 : slot ρ1 i with
      | none => simp only [q1] at p1; exact p1.elim
      | some u =>
        cases u with
        | lst w xs =>
          cases w with
          | true =>
            simp only [q1] at p1
            split at p1
            · rename_i l
              obtain ⟨x1, bb, dd, k1, k2, k3, k4, k5, k6⟩ := re1.take q1
              rw [h1] at k1; cases k1
              obtain ⟨pp, vs, a', rfl, l0, hp, m, n, t, rs⟩ := k5.own
              refine ⟨pp, vs, y, rfl, rfl, hp, by rw [rs.len]; exact l, ?_⟩
              have dab : Dis a' a := fun q y z => d q z (k2 q (t q y))
              have gg : Good H1 F1 (Uni (Uni bb a) dd) := g1.sub (Sub.uni (Sub.uni (k2.trans Sub.r) Sub.l) (k3.trans Sub.r))
              have hdd : Dis (Uni bb a) dd := Dis.uni k4 (fun q y z => d q y (k3 q z))
              obtain ⟨s2, g2, e2⟩ := write_slot gg hdd k6 h1 (.inl m) (b := Uni a' a) (Sub.uni (t.trans Sub.l) Sub.r) (fun z => z.elim n fun z => d pp z (k2 pp m)) (rs.append (Rs.one r) dab) (by rw [List.length_append, List.length_singleton]; exact l)
              exact (PostS.sub p1 (Sub.uni (Sub.uni (k2.trans Sub.r) Sub.l) (k3.trans Sub.r))) σ _ F1 _ s2 g2 e2 Keep.refl
            · exact p1.elim
          | false => simp only [q1] at p1; exact p1.elim
        | _ => simp only [q1] at p1; exact p1.elim
    | _ => simp only [q] at p; exact p.elim
/-- x.extend(e), e new -/
theorem ss_ext (hK : X.K = c.K) (hv : PE X (.Name x p) (tVar i)) (h : SE X c W e f)
    (hbase : attributeBase (.Name x p) "extend" X.env (eval (.Name x p) X.env) = eval (.Name x p) X.env := by rfl)
    (hfew : ((backTo pos (starEach (e :: []) X.env)).all (fun x => !x.1) && (backToKw pos (keywordEach [] X.env)).all (fun x => x.1.isSome)
      && decide ((e :: ([] : List Expr)).length + ([] : List Keyword).length + (if ([] : List Keyword).isEmpty then 0 else 1) < 30)) = true := by rfl)
    (hline : (apos.endLine == pos.line) = true := by rfl) (hs : starEach (e :: []) X.env = (false, eval e X.env) :: starEach [] X.env := by rfl) (hplain : (backTo pos (starEach [] X.env)).any (·.1) = false := by rfl) {pos2 : Pos}
    (hsw : swapsWith (.Call (.Attribute (.Name x p) "extend" apos) [e] [] pos) none pos2.line X.env = pure false := by rfl) :
    SS c W fx X (.Expr (.Call (.Attribute (.Name x p) "extend" apos) [e] [] pos) pos2) (sExt i f) := by
  refine PS.weak (ps_expr (pe_bm PySem.F.plainAttrs_list PySem.F.slot_list_extend PySem.F.type_list_extend mt_extend hv (pa_cons h pa_nil hs) hbase hfew hline hs hplain) hsw) fun D σ H q => ?_
  obtain ⟨ρ, F, A, g, re, p⟩ := q
  unfold sExt at p
  cases q : slot ρ i with
  | none => simp only [q] at p; exact p.elim
  | some v =>
    cases v with
    | lst w0 xs0 =>
      simp only [q] at p
      obtain ⟨x0, b0, h1, _, h3⟩ := re.look q
      refine ⟨x0, h1, by rw [hK]; exact tyv_list h3, ?_⟩
      refine tS.expr (rel := relE c) (fx := fx) (W := W) (D := D) ⟨ρ, F, A, g, re, p⟩ fun v y ρ1 H1 F1 a e g1 d r re1 p1 => ?_
      cases q1 : slot ρ1 i with
      | none => simp only [q1] at p1; exact p1.elim
      | some u =>
        simp only [q1] at p1
        split at p1
        · rename_i xs ys eu
          cases eu
          split at p1
          · rename_i l
            obtain ⟨x1, bb, dd, k1, k2, k3, k4, k5, k6⟩ := re1.take q1
            rw [h1] at k1; cases k1
            obtain ⟨pp, vs, a', rfl, l0, hp, m, n, t, rs⟩ := k5.own
            obtain ⟨p2, vs2, a2, rfl, l2, hp2, m2, n2, t2, rs2⟩ := r.own
            refine ⟨pp, p2, vs, vs2, rfl, rfl, hp, hp2, by rw [rs.len, rs2.len]; exact l, ?_⟩
            have dab : Dis a' a2 := fun q y z => d q (t2 q z) (k2 q (t q y))
            have gg : Good H1 F1 (Uni (Uni bb a2) dd) := g1.sub (Sub.uni (Sub.uni (k2.trans Sub.r) (t2.trans Sub.l)) (k3.trans Sub.r))
            have hdd : Dis (Uni bb a2) dd := Dis.uni k4 (fun q y z => d q (t2 q y) (k3 q z))
            obtain ⟨s2, g2, e2⟩ := write_slot gg hdd k6 h1 (.inl m) (b := Uni a' a2) (Sub.uni (t.trans Sub.l) Sub.r) (fun z => z.elim n fun z => d pp (t2 pp z) (k2 pp m)) (rs.append rs2 dab) (by rw [List.length_append]; exact l)
            exact (PostS.sub p1 (Sub.uni (Sub.uni (k2.trans Sub.r) (t2.trans Sub.l)) (k3.trans Sub.r))) σ _ F1 _ s2 g2 e2 Keep.refl
          · exact p1.elim
        · exact p1.elim
    | _ => simp only [q] at p; exact p.elim
/-- x[k] = e -/
theorem ss_putL {ek : Expr} {fk : EF} {tp : Pos} (hv : PE X (.Name x p) (tVar i)) (h : SE X c W e f) (hk : SE X c W ek fk)
    (ha : ∀ v, assign (.Subscript (.Name x p) ek tp) X.env v = (do
      let ov ← holding [v] (eval (.Name x p) X.env)
      let iv ← holding [v, ov] (eval ek X.env)
      standAt tp
      holding [v, ov, iv] (setItem ov iv v)
      release [v, ov, iv] []) := by intro _; rfl)
    (hs : swapsWithSole [.Subscript (.Name x p) ek tp] e pos.line X.env = pure false := by rfl) (hw : swappedStores [.Subscript (.Name x p) ek tp] e X.env = pure none := by rfl)
    (h1 : (assignEach [.Subscript (.Name x p) ek tp] X.env).map (·.2) = [assign (.Subscript (.Name x p) ek tp) X.env] := by rfl) :
    SS c W fx X (.Assign [.Subscript (.Name x p) ek tp] e pos) (sPutL i fk f) := by
  refine PS.weak (ps_asg h (pg_sub hv hk set_list ha) hs hw h1) fun D σ H q => ?_
  refine tS.expr (rel := relE c) q fun v y ρ1 H1 F1 a e g1 d r re1 p1 => ?_
  cases q0 : slot ρ1 i with
  | none => simp only [q0] at p1; exact p1.elim
  | some u0 =>
    simp only [q0] at p1
    obtain ⟨x0, b0, h1, _, h3⟩ := re1.look q0
    refine ⟨x0, h1, ?_⟩
    -- the place, beside the value
    refine ⟨ρ1, F1, e, g1.sub Sub.r, re1, ?_⟩
    have all : ∀ {H2 : Hp} {F2 A2 : AS}, Stp H1 F1 e H2 F2 A2 → Stp H1 F1 (Uni a e) H2 F2 (Uni a A2) := fun s => s.frame
    cases q1 : fk ρ1 with
    | bad => simp only [q1] at p1; exact p1.elim
    | er z ρ2 =>
      simp only [q1] at p1
      intro cls dd H2 F2 e2 s g2 rx re2
      exact p1 cls dd σ H2 F2 e2 ((all s).drop Sub.r) g2 rx re2 Keep.refl
    | ok kv ρ2 =>
      simp only [q1] at p1
      intro kx H2 F2 a2 e2 s g2 d2 rk re2
      have ga := (g1.sub (show Sub a _ from Sub.l)).kept s g2 d
      have da := s.apart (g1.sub (show Sub a _ from Sub.l)) d
      have r2 := R.step (g1.sub Sub.r) s r d
      have p2 := PostS.base p1 (all s) Keep.refl
      cases q2 : slot ρ2 i with
      | none => simp only [sOf_ok, q2] at p2; exact p2.elim
      | some u =>
        simp only [sOf_ok, q2] at p2
        split at p2
        · rename_i xs k eu
          cases eu
          split at p2
          · rename_i j hj
            obtain ⟨x1, bb, dd, k1, k2, k3, k4, k5, k6⟩ := re2.take q2
            rw [h1] at k1; cases k1
            obtain ⟨pp, vs, a', rfl, l0, hp, m, n, t, rs⟩ := k5.own
            refine ⟨pp, vs, k, j, rfl, rk, hp, by rw [rs.len]; exact hj, ?_⟩
            have dab : Dis a a' := fun q y z => da q y (.inr (k2 q (t q z)))
            have gg : Good H2 F2 (Uni (Uni bb a) dd) := (ga.uni g2).sub (Sub.uni (Sub.uni (k2.trans (Sub.r.trans Sub.r)) Sub.l) (k3.trans (Sub.r.trans Sub.r)))
            have hdd : Dis (Uni bb a) dd := Dis.uni k4 (fun q y z => da q y (.inr (k3 q z)))
            obtain ⟨s3, g3, e3⟩ := write_slot gg hdd k6 h1 (.inl m) (b := Uni a a') (Sub.uni Sub.r (t.trans Sub.l)) (fun z => z.elim (fun z => da pp z (.inr (k2 pp m))) n) (rs.setAt (j := j) r2 dab) (by rw [List.length_set]; exact l0)
            exact (PostS.sub p2 (Sub.uni (Sub.uni (k2.trans (Sub.r.trans Sub.r)) Sub.l) (k3.trans (Sub.r.trans Sub.r)))) σ _ F2 _ s3 g3 e3 Keep.refl
          · exact p2.elim
        · exact p2.elim
/-- a, b = e1, e2, both local -/
theorem ss_par2 {i j : Nat} {x y : Str} {a b : Expr} {g : AF} {px py pt : Pos} {kt k2 pt2} (hc : X.calm = true) (hN : X.N.Nodup) (hi : X.N[i]? = some x) (hj : X.N[j]? = some y) (hij : i ≠ j) (fi : fx i = false) (fj : fx j = false)
    (hx : X.env.scope.names.lookup x = some .local) (hy : X.env.scope.names.lookup y = some .local) (ha : SA X c W [a, b] g)
    (hw : swappedStores [.Tuple [.Name x px, .Name y py] kt pt] (.Tuple [a, b] k2 pt2) X.env = pure (some [x, y]))
    (hs : swapsWithSole [.Tuple [.Name x px, .Name y py] kt pt] (.Tuple [a, b] k2 pt2) pos.line X.env = pure false := by rfl) :
    SS c W fx X (.Assign [.Tuple [.Name x px, .Name y py] kt pt] (.Tuple [a, b] k2 pt2) pos) (sPar2 i j g) := by
  refine PS.weak (ps_par hc hN hi hj hij hx hy ha hw hs) fun D σ H q => ?_
  refine tS.expr (rel := relL c) q fun vs xs ρ1 H1 F1 a e g1 d r re1 p1 => ?_
  match vs, r with
  | [v, w], ⟨v', vs', b1, d1, e1, s1, s2, k, r1, w', vs2, b2, d2, e2, t1, t2, kk, r2, r3⟩ =>
    subst e1 e2
    cases (show vs2 = [] from r3)
    refine ⟨v', w', rfl, ?_⟩
    have e3 := re1.storeAny (i := i) r1 (d.mono s1 (Sub.refl _))
    have e4 := e3.storeAny (i := j) r2 (fun q y z => z.elim (fun z => k q z (t1 q y)) (d q (s2 q (t1 q y))))
    exact p1.nxt g1 (Sub.uni (t1.trans (s2.trans Sub.l)) (Sub.uni (s1.trans Sub.l) Sub.r)) e4 ((Keep.set fi).trans (Keep.set fj))
  | [], _ => exact p1.elim
  | [_], _ => exact p1.elim
  | _ :: _ :: _ :: _, _ => exact p1.elim
theorem ss_par3 {i j l : Nat} {x y z : Str} {a b d : Expr} {g : AF} {px py pz pt : Pos} {kt k2 pt2} (hc : X.calm = true) (hN : X.N.Nodup) (hi : X.N[i]? = some x) (hj : X.N[j]? = some y) (hl : X.N[l]? = some z) (hij : i ≠ j) (hil : i ≠ l) (hjl : j ≠ l) (fi : fx i = false) (fj : fx j = false) (fl : fx l = false)
    (hx : X.env.scope.names.lookup x = some .local) (hy : X.env.scope.names.lookup y = some .local) (hz : X.env.scope.names.lookup z = some .local) (ha : SA X c W [a, b, d] g)
    (hw : swappedStores [.Tuple [.Name x px, .Name y py, .Name z pz] kt pt] (.Tuple [a, b, d] k2 pt2) X.env = pure (some [x, y, z]))
    (hs : swapsWithSole [.Tuple [.Name x px, .Name y py, .Name z pz] kt pt] (.Tuple [a, b, d] k2 pt2) pos.line X.env = pure false := by rfl) :
    SS c W fx X (.Assign [.Tuple [.Name x px, .Name y py, .Name z pz] kt pt] (.Tuple [a, b, d] k2 pt2) pos) (sPar3 i j l g) := by
  refine PS.weak (ps_par3 hc hN hi hj hl hij hil hjl hx hy hz ha hw hs) fun D σ H q => ?_
  refine tS.expr (rel := relL c) q fun vs xs ρ1 H1 F1 a e g1 d r re1 p1 => ?_
  match vs, r with
  | [v, w, u], ⟨v', vs', b1, d1, e1, s1, s2, k, r1, w', vs2, b2, d2, e2, t1, t2, kk, r2, u', vs3, b3, d3, e3, u1, u2, kkk, r3, r4⟩ =>
    subst e1 e2 e3
    cases (show vs3 = [] from r4)
    refine ⟨v', w', u', rfl, ?_⟩
    have f3 := re1.storeAny (i := i) r1 (d.mono s1 (Sub.refl _))
    have f4 := f3.storeAny (i := j) r2 (fun q y z => z.elim (fun z => k q z (t1 q y)) (d q (s2 q (t1 q y))))
    have f5 := f4.storeAny (i := l) r3 (fun q y z => z.elim (fun z => kk q z (u1 q y)) fun z => z.elim (fun z => k q z (t2 q (u1 q y))) (d q (s2 q (t2 q (u1 q y)))))
    exact p1.nxt g1 (Sub.uni (u1.trans (t2.trans (s2.trans Sub.l))) (Sub.uni (t1.trans (s2.trans Sub.l)) (Sub.uni (s1.trans Sub.l) Sub.r))) f5 (((Keep.set fi).trans (Keep.set fj)).trans (Keep.set fl))
  | [], _ => exact p1.elim
  | [_], _ => exact p1.elim
  | [_, _], _ => exact p1.elim
  | _ :: _ :: _ :: _ :: _, _ => exact p1.elim
end
end Tr
set_option Elab.async false
set_option linter.all false
set_option maxRecDepth 100000
set_option maxHeartbeats 4000000
/-! Tr.W: the rules in short, for a place (Dk). -/
namespace Tr
open PySem PySem.Spec L2

section
variable {X : Cx} {c : RC} {W : WX} {k : Nat} {pos : Pos} {a b d : Expr} {oa ob od : Opd}
theorem D_hu (D : Dk X c W k) : X.A.units + 64 < cLine := D.hr.units
theorem w_add (D : Ds X c) (ha : SO X c W a oa) (hb : SO X c W b ob) : SE X c W (.BinOp a .Add b pos) (eP2 bAdd oa ob) := se_bin op_addAll (by rw [D.K]; exact k_add) ha hb
theorem w_sub (D : Ds X c) (ha : SO X c W a oa) (hb : SO X c W b ob) : SE X c W (.BinOp a .Sub b pos) (eP2 bSub oa ob) := se_bin op_sub k_sub ha hb
theorem w_mul (D : Ds X c) (ha : SO X c W a oa) (hb : SO X c W b ob) : SE X c W (.BinOp a .Mult b pos) (eP2 bMul oa ob) := se_bin op_mulAll k_mul ha hb
theorem w_div (D : Ds X c) (ha : SO X c W a oa) (hb : SO X c W b ob) : SE X c W (.BinOp a .FloorDiv b pos) (eP2 bDiv oa ob) := se_bin op_fdivW k_div ha hb
theorem w_mod (D : Ds X c) (ha : SO X c W a oa) (hb : SO X c W b ob) : SE X c W (.BinOp a .Mod b pos) (eP2 bMod oa ob) := se_bin op_mod k_mod ha hb
theorem w_pow (D : Ds X c) (ha : SO X c W a oa) (hb : SO X c W b ob) : SE X c W (.BinOp a .Pow b pos) (eP2 bPow oa ob) := se_bin op_powW k_pow ha hb
theorem w_neg (D : Ds X c) (ha : SO X c W a oa) : SE X c W (.UnaryOp .USub a pos) (eP1 uNeg oa) := se_un un_neg k_neg ha

theorem t_eq (D : Ds X c) (ha : SO X c W a oa) (hb : SO X c W b ob) : ST X c W (.Compare a [.Eq] [b] pos) (tPV2 cEq oa ob) := st_cmp (op_eqD D.un) (by rw [D.K]; exact k_eq) ha hb (nomark _)
theorem t_ne (D : Ds X c) (ha : SO X c W a oa) (hb : SO X c W b ob) : ST X c W (.Compare a [.NotEq] [b] pos) (tPV2 cNe oa ob) := st_cmp (op_neD D.un) (by rw [D.K]; exact k_ne) ha hb (nomark _)
theorem t_lt (D : Ds X c) (ha : SO X c W a oa) (hb : SO X c W b ob) : ST X c W (.Compare a [.Lt] [b] pos) (tPV2 cLt oa ob) := st_cmp op_lt k_lt ha hb (nomark _)
theorem t_le (D : Ds X c) (ha : SO X c W a oa) (hb : SO X c W b ob) : ST X c W (.Compare a [.LtE] [b] pos) (tPV2 cLe oa ob) := st_cmp op_le k_le ha hb (nomark _)
theorem t_gt (D : Ds X c) (ha : SO X c W a oa) (hb : SO X c W b ob) : ST X c W (.Compare a [.Gt] [b] pos) (tPV2 cGt oa ob) := st_cmp op_gt k_gt ha hb (nomark _)
theorem t_ge (D : Ds X c) (ha : SO X c W a oa) (hb : SO X c W b ob) : ST X c W (.Compare a [.GtE] [b] pos) (tPV2 cGe oa ob) := st_cmp op_ge k_ge ha hb (nomark _)
theorem t_in (D : Ds X c) (ha : SO X c W a oa) (hb : SO X c W b ob) (hm : behindInMarks .In b = false := by rfl) : ST X c W (.Compare a [.In] [b] pos) (tPV2 cIn oa ob) := st_cmp (op_inD D.un) (by rw [D.K]; exact k_in false) ha hb hm
theorem t_ni (D : Ds X c) (ha : SO X c W a oa) (hb : SO X c W b ob) (hm : behindInMarks .NotIn b = false := by rfl) : ST X c W (.Compare a [.NotIn] [b] pos) (tPV2 cNi oa ob) := st_cmp (op_niD D.un) (by rw [D.K]; exact k_in true) ha hb hm
theorem e_eq (D : Ds X c) (ha : SO X c W a oa) (hb : SO X c W b ob) : SE X c W (.Compare a [.Eq] [b] pos) (eT (tPV2 cEq oa ob)) := se_cmp (op_eqD D.un) (by rw [D.K]; exact k_eq) ha hb (nomark _)
theorem e_ne (D : Ds X c) (ha : SO X c W a oa) (hb : SO X c W b ob) : SE X c W (.Compare a [.NotEq] [b] pos) (eT (tPV2 cNe oa ob)) := se_cmp (op_neD D.un) (by rw [D.K]; exact k_ne) ha hb (nomark _)
theorem e_lt (D : Ds X c) (ha : SO X c W a oa) (hb : SO X c W b ob) : SE X c W (.Compare a [.Lt] [b] pos) (eT (tPV2 cLt oa ob)) := se_cmp op_lt k_lt ha hb (nomark _)
theorem e_le (D : Ds X c) (ha : SO X c W a oa) (hb : SO X c W b ob) : SE X c W (.Compare a [.LtE] [b] pos) (eT (tPV2 cLe oa ob)) := se_cmp op_le k_le ha hb (nomark _)
theorem e_gt (D : Ds X c) (ha : SO X c W a oa) (hb : SO X c W b ob) : SE X c W (.Compare a [.Gt] [b] pos) (eT (tPV2 cGt oa ob)) := se_cmp op_gt k_gt ha hb (nomark _)
theorem e_ge (D : Ds X c) (ha : SO X c W a oa) (hb : SO X c W b ob) : SE X c W (.Compare a [.GtE] [b] pos) (eT (tPV2 cGe oa ob)) := se_cmp op_ge k_ge ha hb (nomark _)
theorem e_in (D : Ds X c) (ha : SO X c W a oa) (hb : SO X c W b ob) (hm : behindInMarks .In b = false := by rfl) : SE X c W (.Compare a [.In] [b] pos) (eT (tPV2 cIn oa ob)) := se_cmp (op_inD D.un) (by rw [D.K]; exact k_in false) ha hb hm
theorem e_ni (D : Ds X c) (ha : SO X c W a oa) (hb : SO X c W b ob) (hm : behindInMarks .NotIn b = false := by rfl) : SE X c W (.Compare a [.NotIn] [b] pos) (eT (tPV2 cNi oa ob)) := se_cmp (op_niD D.un) (by rw [D.K]; exact k_in true) ha hb hm
theorem t_isN (D : Ds X c) {j pos'} (ha : SO X c W a oa) : ST X c W (.Compare a [.Is] [.Constant .none j pos'] pos) (tPV cIsN oa) := st_isN ha
theorem e_isN (D : Ds X c) {j pos'} (ha : SO X c W a oa) : SE X c W (.Compare a [.Is] [.Constant .none j pos'] pos) (eT (tPV cIsN oa)) := se_isN ha
theorem t_noN (D : Ds X c) {j pos'} (ha : SO X c W a oa) : ST X c W (.Compare a [.IsNot] [.Constant .none j pos'] pos) (tPV cNotN oa) := st_notN ha
theorem e_noN (D : Ds X c) {j pos'} (ha : SO X c W a oa) : SE X c W (.Compare a [.IsNot] [.Constant .none j pos'] pos) (eT (tPV cNotN oa)) := se_notN ha

/-! chains -/
theorem ch_q {r r' : R2} {l m : PV → PV → Option Bool} (hl : C2 c r l) (hm : C2 c r' m) {σ : L2.St} {H : Hp} {Q : Bool → Hp → Prop} {Q' : VK} (hq : ∀ z H, Q z H → Q' (.bl z) H) (q : tTs c W (tCh l m oa ob od) σ H Q) :
    tChain r r' (tO c W oa) (tO c W ob) (tO c W od) σ H Q' := by
  obtain ⟨ρ, F, A, gd, e, p⟩ := q
  refine tO.next (t := Emp) gd Sub.emp (Sub.refl _) Dis.empl e p fun u x ρ1 H1 F1 a1 b1 g1 _ d tm e1 s p1 => ?_
  refine tO.next (t := a1) (b := b1) g1 (Sub.l.trans Sub.r) (Sub.r.trans Sub.r) d e1 p1 fun u' x' ρ2 H2 F2 a2 b2 g2 d1 d2 tm' e2 s2 p2 => ?_
  have tm2 := tm.step (g1.sub (Sub.r.trans Sub.r)) s2 d
  cases q : oa.get u ρ2 with
  | none => simp only [q] at p2; exact p2.elim
  | some v =>
    simp only [q, Option.bind_some] at p2
    cases q' : ob.get u' ρ2 with
    | none => simp only [q'] at p2; exact p2.elim
    | some w =>
      simp only [q', Option.bind_some] at p2
      cases q3 : l v w with
      | none => simp only [q3] at p2; exact p2.elim
      | some z =>
        simp only [q3, Res.of_some, Res.bind_ok] at p2
        obtain ⟨dv, sv, rv'⟩ := tm2.get e2 q
        obtain ⟨dw, sw, rw'⟩ := tm'.get e2 q'
        refine hl v w z x x' H2 F2 _ _ _ (g2.sub Sub.emp) rv' rw' q3 ?_
        refine ⟨z, rfl, ?_⟩
        cases z with
        | false =>
          rw [if_neg Bool.false_ne_true] at p2 ⊢
          exact hq _ _ (p2.now g2 (Sub.r.trans Sub.r) rfl e2)
        | true =>
          rw [if_pos rfl] at p2 ⊢
          refine tO.next (t := a2) (b := b2) g2 (Sub.l.trans Sub.r) (Sub.r.trans Sub.r) d2 e2 p2 fun u3 x3 ρ3 H3 F3 a3 b3 g3 d3 d4 tm3 e3 s3 p3 => ?_
          have tm4 := tm'.step (g2.sub (Sub.r.trans Sub.r)) s3 d2
          cases q4 : ob.get u' ρ3 with
          | none => simp only [q4] at p3; exact p3.elim
          | some w2 =>
            simp only [q4, Option.bind_some] at p3
            cases q5 : od.get u3 ρ3 with
            | none => simp only [q5] at p3; exact p3.elim
            | some y =>
              simp only [q5, Option.bind_some] at p3
              cases q6 : m w2 y with
              | none => simp only [q6] at p3; exact p3.elim
              | some z2 =>
                simp only [q6, Res.of_some] at p3
                obtain ⟨dw2, sw2, rw2⟩ := tm4.get e3 q4
                obtain ⟨dy, sy, ry⟩ := tm3.get e3 q5
                refine hm w2 y z2 x' x3 H3 F3 _ _ _ (g3.sub Sub.emp) rw2 ry q6 ?_
                exact hq _ _ (p3.now g3 (Sub.r.trans Sub.r) rfl e3)
theorem st_ch {op op' : CmpOp} {r r' : R2} {l m : PV → PV → Option Bool} (ho : OpR X (compareOp op) r) (ho' : OpR X (compareOp op') r') (hl : C2 c r l) (hm : C2 c r' m) (ha : SO X c W a oa) (hb : SO X c W b ob) (hd : SO X c W d od)
    (hk : lastMarks [op, op'] [b, d] = false := by with_unfolding_all rfl) : ST X c W (.Compare a [op, op'] [b, d] pos) (tCh l m oa ob od) :=
  PT.weak (pt_chain ho ho' ha hb hd hk) fun σ H Q q => ch_q hl hm (fun z H h => ⟨z, rfl, h⟩) q
theorem se_ch {op op' : CmpOp} {r r' : R2} {l m : PV → PV → Option Bool} (ho : OpR X (compareOp op) r) (ho' : OpR X (compareOp op') r') (hl : C2 c r l) (hm : C2 c r' m) (ha : SO X c W a oa) (hb : SO X c W b ob) (hd : SO X c W d od)
    (hk : lastMarks [op, op'] [b, d] = false := by with_unfolding_all rfl) : SE X c W (.Compare a [op, op'] [b, d] pos) (eT (tCh l m oa ob od)) :=
  PE.weak (pe_chain ho ho' ha hb hd hk) fun σ H Q q => ch_q hl hm (fun z H h => h) (eT_bl q)
theorem lm2 {op op' : CmpOp} (b d : Expr) (h : op' ≠ .In := by decide) (h2 : op' ≠ .NotIn := by decide) : lastMarks [op, op'] [b, d] = false := by
  unfold lastMarks
  exact nomark d h h2
theorem t_lele (D : Ds X c) (ha : SO X c W a oa) (hb : SO X c W b ob) (hd : SO X c W d od) : ST X c W (.Compare a [.LtE, .LtE] [b, d] pos) (tCh cLe cLe oa ob od) := st_ch op_le op_le k_le k_le ha hb hd (lm2 b d)
theorem e_lele (D : Ds X c) (ha : SO X c W a oa) (hb : SO X c W b ob) (hd : SO X c W d od) : SE X c W (.Compare a [.LtE, .LtE] [b, d] pos) (eT (tCh cLe cLe oa ob od)) := se_ch op_le op_le k_le k_le ha hb hd (lm2 b d)
theorem t_lelt (D : Ds X c) (ha : SO X c W a oa) (hb : SO X c W b ob) (hd : SO X c W d od) : ST X c W (.Compare a [.LtE, .Lt] [b, d] pos) (tCh cLe cLt oa ob od) := st_ch op_le op_lt k_le k_lt ha hb hd (lm2 b d)
theorem e_lelt (D : Ds X c) (ha : SO X c W a oa) (hb : SO X c W b ob) (hd : SO X c W d od) : SE X c W (.Compare a [.LtE, .Lt] [b, d] pos) (eT (tCh cLe cLt oa ob od)) := se_ch op_le op_lt k_le k_lt ha hb hd (lm2 b d)
theorem t_ltle (D : Ds X c) (ha : SO X c W a oa) (hb : SO X c W b ob) (hd : SO X c W d od) : ST X c W (.Compare a [.Lt, .LtE] [b, d] pos) (tCh cLt cLe oa ob od) := st_ch op_lt op_le k_lt k_le ha hb hd (lm2 b d)
theorem e_ltle (D : Ds X c) (ha : SO X c W a oa) (hb : SO X c W b ob) (hd : SO X c W d od) : SE X c W (.Compare a [.Lt, .LtE] [b, d] pos) (eT (tCh cLt cLe oa ob od)) := se_ch op_lt op_le k_lt k_le ha hb hd (lm2 b d)
theorem t_ltlt (D : Ds X c) (ha : SO X c W a oa) (hb : SO X c W b ob) (hd : SO X c W d od) : ST X c W (.Compare a [.Lt, .Lt] [b, d] pos) (tCh cLt cLt oa ob od) := st_ch op_lt op_lt k_lt k_lt ha hb hd (lm2 b d)
theorem e_ltlt (D : Ds X c) (ha : SO X c W a oa) (hb : SO X c W b ob) (hd : SO X c W d od) : SE X c W (.Compare a [.Lt, .Lt] [b, d] pos) (eT (tCh cLt cLt oa ob od)) := se_ch op_lt op_lt k_lt k_lt ha hb hd (lm2 b d)

/-! built-ins -/
theorem e_len {p} (D : Ds X c) (hm : X.mg "len" = none) (hg : Gl X "len") (ha : SO X c W a oa) (st : starEach [a] X.env = (false, eval a X.env) :: starEach [] X.env := by rfl) (he : (backTo pos (starEach [] X.env)).any (·.1) = false := by rfl) : SE X c W (.Call (.Name "len" p) [a] [] pos) (eP1 fLen oa) := se_call1 call_lenAll (by rw [D.K]; exact k_len) hg hm (by decide +kernel) ha (by decide) (by decide) st he
theorem e_abs {p} (D : Ds X c) (hm : X.mg "abs" = none) (hg : Gl X "abs") (ha : SO X c W a oa) (st : starEach [a] X.env = (false, eval a X.env) :: starEach [] X.env := by rfl) (he : (backTo pos (starEach [] X.env)).any (·.1) = false := by rfl) : SE X c W (.Call (.Name "abs" p) [a] [] pos) (eP1 fAbs oa) := se_call1 call_abs k_abs hg hm (by decide +kernel) ha (by decide) (by decide) st he
theorem e_int {p} (D : Ds X c) (hm : X.mg "int" = none) (hg : Gl X "int") (ha : SO X c W a oa) (st : starEach [a] X.env = (false, eval a X.env) :: starEach [] X.env := by rfl) (he : (backTo pos (starEach [] X.env)).any (·.1) = false := by rfl) : SE X c W (.Call (.Name "int" p) [a] [] pos) (eP1 fInt oa) := se_ty1 call_int1 k_int hg hm (by decide +kernel) ha (by decide) (by decide) st he
theorem e_max2 {p} (D : Dk X c W k) (hm : X.mg "max" = none) (hg : Gl X "max") (ha : SO X c W a oa) (hb : SO X c W b ob) (st : starEach [a, b] X.env = (false, eval a X.env) :: starEach [b] X.env := by rfl) (st2 : starEach [b] X.env = (false, eval b X.env) :: starEach [] X.env := by rfl) (he : (backTo pos (starEach [b] X.env)).any (·.1) = false := by rfl) : SE X c W (.Call (.Name "max" p) [a, b] [] pos) (eP2 fMax2 oa ob) := se_call2 (call_max2 D.calm) k_max2 hg hm (by decide +kernel) ha hb (by decide) (by decide) st st2 he
theorem e_min2 {p} (D : Dk X c W k) (hm : X.mg "min" = none) (hg : Gl X "min") (ha : SO X c W a oa) (hb : SO X c W b ob) (st : starEach [a, b] X.env = (false, eval a X.env) :: starEach [b] X.env := by rfl) (st2 : starEach [b] X.env = (false, eval b X.env) :: starEach [] X.env := by rfl) (he : (backTo pos (starEach [b] X.env)).any (·.1) = false := by rfl) : SE X c W (.Call (.Name "min" p) [a, b] [] pos) (eP2 fMin2 oa ob) := se_call2 (call_min2 D.calm) k_min2 hg hm (by decide +kernel) ha hb (by decide) (by decide) st st2 he
theorem e_max {p} (D : Dk X c W k) (hm : X.mg "max" = none) (hg : Gl X "max") (ha : SO X c W a oa) (st : starEach [a] X.env = (false, eval a X.env) :: starEach [] X.env := by rfl) (he : (backTo pos (starEach [] X.env)).any (·.1) = false := by rfl) : SE X c W (.Call (.Name "max" p) [a] [] pos) (eP1 fMax oa) := se_call1 (cr_max D.calm) (by rw [D.K]; exact k_max) hg hm (by decide +kernel) ha (by decide) (by decide) st he
theorem e_all {p} (D : Dk X c W k) (hm : X.mg "all" = none) (hg : Gl X "all") (ha : SO X c W a oa) (st : starEach [a] X.env = (false, eval a X.env) :: starEach [] X.env := by rfl) (he : (backTo pos (starEach [] X.env)).any (·.1) = false := by rfl) : SE X c W (.Call (.Name "all" p) [a] [] pos) (eP1 fAll oa) := se_call1 (cr_all D.calm) (by rw [D.K]; exact k_all) hg hm (by decide +kernel) ha (by decide) (by decide) st he
theorem e_any {p} (D : Dk X c W k) (hm : X.mg "any" = none) (hg : Gl X "any") (ha : SO X c W a oa) (st : starEach [a] X.env = (false, eval a X.env) :: starEach [] X.env := by rfl) (he : (backTo pos (starEach [] X.env)).any (·.1) = false := by rfl) : SE X c W (.Call (.Name "any" p) [a] [] pos) (eP1 fAny oa) := se_call1 (cr_any D.calm) (by rw [D.K]; exact k_any) hg hm (by decide +kernel) ha (by decide) (by decide) st he
theorem e_list {p} (D : Ds X c) (hm : X.mg "list" = none) (hg : Gl X "list") (ha : SO X c W a oa) (st : starEach [a] X.env = (false, eval a X.env) :: starEach [] X.env := by rfl) (he : (backTo pos (starEach [] X.env)).any (·.1) = false := by rfl) : SE X c W (.Call (.Name "list" p) [a] [] pos) (eP1 fList oa) := se_ty1 call_list_of (by rw [D.K]; exact k_list) hg hm (by decide +kernel) ha (by decide) (by decide) st he
theorem e_tuple {p} (D : Ds X c) (hm : X.mg "tuple" = none) (hg : Gl X "tuple") (ha : SO X c W a oa) (st : starEach [a] X.env = (false, eval a X.env) :: starEach [] X.env := by rfl) (he : (backTo pos (starEach [] X.env)).any (·.1) = false := by rfl) : SE X c W (.Call (.Name "tuple" p) [a] [] pos) (eP1 fTuple oa) := se_ty1 call_tupleB (by rw [D.K]; exact k_tuple) hg hm (by decide +kernel) ha (by decide) (by decide) st he
theorem e_ix (D : Ds X c) (ha : SO X c W a oa) (hb : SO X c W b ob) (hs : PlainIx b) : SE X c W (.Subscript a b pos) (eP2 ix oa ob) := se_ix D.K ha hb hs
theorem e_sl (D : Ds X c) {lo hi : Option Expr} {p2 : Pos} {fl fh : Option EF} (ha : SO X c W a oa) (hl : SB X c W lo fl) (hh : SB X c W hi fh) : SE X c W (.Subscript a (.Slice lo hi none p2) pos) (eSl oa fl fh) := se_sl D.K ha hl hh
theorem e_rv (D : Ds X c) {k0 : _} {p1 p2 p3 : Pos} (ha : SO X c W a oa) : SE X c W (.Subscript a (.Slice none none (some (.UnaryOp .USub (.Constant (.int 1) k0 p1) p2)) p3) pos) (eP1 rv oa) := se_rv D.K ha
theorem e_isa (D : Ds X c) {p p2 : Pos} {xT : Str} (T : Ty) (hm : X.mg "isinstance" = none) (hg : Gl X "isinstance") (hmT : X.mg xT = none) (hgT : Gl X xT) (hb : bootBuiltins xT = some (.type (tyN T))) (hn : xT ≠ "__name__") (hd : (xT == ("__debug__" : Str)) = false) (ha : SO X c W a oa)
    (st : starEach [a, .Name xT p2] X.env = (false, eval a X.env) :: starEach [.Name xT p2] X.env := by rfl) (st2 : starEach [.Name xT p2] X.env = (false, eval (.Name xT p2) X.env) :: starEach [] X.env := by rfl) (he : (backTo pos (starEach [.Name xT p2] X.env)).any (·.1) = false := by rfl) :
    SE X c W (.Call (.Name "isinstance" p) [a, .Name xT p2] [] pos) (eT (tPV (isA T) oa)) := se_isa D.K ha (pe_bltn hgT hmT hb rfl hn hd) hg hm st st2 he

/-! a module's constant -/
def GlobOk (c : RC) (mg : Str → Option Value) (x : Str) (z : PV) : Prop := ∃ v u, mg x = some u ∧ RelV v u ∧ ∀ H F, R c H F z v Emp
theorem e_glob {x : Str} {z : PV} (G : GlobOk c X.mg x z) (hg : Gl X x) (hd : (x == ("__debug__" : Str)) = false := by decide) : SE X c W (.Name x pos) (eC z) := by
  obtain ⟨v, u, h1, h2, h3⟩ := G
  exact se_of (pe_glob hg h1 h2 hd) h3
theorem glob_int {mg : Str → Option Value} {x : Str} {i : Int} (h : ∃ t, mg x = some (.int i t)) : GlobOk c mg x (.int i) := by
  obtain ⟨t, h⟩ := h
  exact ⟨.int i, _, h, ⟨_, rfl⟩, fun _ _ => rfl⟩
theorem glob_str {mg : Str → Option Value} {x z : Str} (hz : sOk z = true) (h : ∃ t, mg x = some (.str z t)) : GlobOk c mg x (.str z) := by
  obtain ⟨t, h⟩ := h
  exact ⟨.str z, _, h, ⟨_, rfl⟩, fun _ _ => ⟨rfl, hz⟩⟩

/-! calls of defs -/
/-- a def as it stands behind the top, and what it does -/
def Def (P : Program) (w : World) (K : PySem.W.Frag) (mg : Str → Option Value) (base : Heap) (c : RC) (k : Nat) (x : Str) (st : Stmt) (ps : List Str) (sem : FF) : Prop :=
  ∃ f fd, mg x = some (.ref f) ∧ Fun K x x st f fd ∧ Binds K fd ps [] ∧ FnG P w K mg base (L2.CX P w) k f fd ps (spF c ps.length sem)
variable {j : Nat} {x : Str} {p : Pos} {e : Expr} {es : List Expr} {os : List Opd} {sem : FF} {st : Stmt} {ps : List Str}
theorem e_call (D : Dk X c W j) (G : Def X.prog X.w X.K X.mg X.base c k x st ps sem) (hr : k ≤ j) (hg : Gl X x)
    (ha : SOs X c W (e :: es) os) (hn : os.length = ps.length) (hdb : (x == ("__debug__" : Str)) = false := by decide) (he : starEach (e :: es) X.env = (false, eval e X.env) :: starEach es X.env := by rfl) (hpl : (backTo pos (starEach es X.env)).any (·.1) = false := by rfl) :
    SE X c W (.Call (.Name x p) (e :: es) [] pos) (eCall sem os []) := by
  obtain ⟨f, fd, h1, h2, h3, h4⟩ := G
  exact se_call D h4 hr hg h1 h2.kp h3 .nil (fun _ _ => rfl) ha (by rw [hn]; rfl) hdb he hpl
end
end Tr
set_option Elab.async false
set_option linter.all false
set_option maxRecDepth 100000
set_option maxHeartbeats 4000000
/-! Tr.X: calls with keywords. -/
namespace Tr
open PySem PySem.Spec L2

/-- the items at those places -/
def gP {α : Type} (p : List Nat) (xs : List α) : List α := p.filterMap (xs[·]?)
/-- a def whose arguments come in another order; q: the way back -/
def permF (p q : List Nat) (sem : FF) : FF := fun as => match sem (gP p as) with
  | .ok v ws => .ok v (gP q ws)
  | .er e ws => .er e (gP q ws)
  | .bad => .bad
def PermOk (n : Nat) (p q : List Nat) : Prop := p.Perm (List.range n) ∧ q.Perm (List.range n) ∧ gP q p = List.range n
instance {n : Nat} {p q : List Nat} : Decidable (PermOk n p q) := by unfold PermOk; exact inferInstance
theorem gP_range {α : Type} (xs : List α) : gP (List.range xs.length) xs = xs := by
  have go : ∀ n, n ≤ xs.length → gP (List.range n) xs = xs.take n := by
    intro n
    induction n with
    | zero => intro _; simp [gP]
    | succ n ih =>
      intro h
      have h2 : n < xs.length := h
      unfold gP at ih ⊢
      rw [List.range_succ, List.filterMap_append, ih (by omega), List.take_succ]
      simp [h2]
  rw [go _ (Nat.le_refl _), List.take_length]
theorem gP_perm {α : Type} {p : List Nat} {n : Nat} (h : p.Perm (List.range n)) {xs : List α} (l : xs.length = n) : (gP p xs).Perm xs := by
  subst l
  have := h.filterMap (xs[·]?)
  have e := gP_range xs
  unfold gP at e ⊢
  rw [e] at this
  exact this
section
variable {c : RC} {H : Hp} {F : AS}
/-- the trees and the values, in pairs -/
def Rz (c : RC) (H : Hp) (F : AS) (zs : List (PV × V)) (a : AS) : Prop := Rs c H F (zs.map (·.1)) (zs.map (·.2)) a
theorem Rz.perm {zs ys : List (PV × V)} (h : zs.Perm ys) : ∀ {a : AS}, Rz c H F zs a → Rz c H F ys a := by
  induction h with
  | nil => exact fun h => h
  | cons x _ ih =>
    rintro a ⟨v, vs', b, d, e, s1, s2, k, r, rs⟩
    cases e
    exact ⟨_, _, b, d, rfl, s1, s2, k, r, ih rs⟩
  | swap x y l =>
    rintro a ⟨v, vs', b, d, e, s1, s2, k, r, v2, vs2, b2, d2, e2, t1, t2, k2, r2, rs⟩
    cases e; cases e2
    refine ⟨_, _, b2, Uni b d2, rfl, t1.trans s2, Sub.uni s1 (t2.trans s2), ?_, r2, _, _, b, d2, rfl, Sub.l, Sub.r, ?_, r, rs⟩
    · intro q y z
      rcases z with z | z
      · exact k q z (t1 q y)
      · exact k2 q y z
    · exact fun q y z => k q y (t2 q z)
  | trans _ _ ih1 ih2 => exact fun h => ih2 (ih1 h)
theorem gP_zip {p : List Nat} : ∀ {xs : List PV} {vs : List V}, xs.length = vs.length → gP p (xs.zip vs) = (gP p xs).zip (gP p vs) ∧ (gP p xs).length = (gP p vs).length := by
  intro xs vs l
  unfold gP
  induction p with
  | nil => exact ⟨rfl, rfl⟩
  | cons i p ih =>
    by_cases h : i < xs.length
    · have h2 : i < vs.length := by omega
      have hz : (xs.zip vs)[i]? = some (xs[i], vs[i]) := by
        rw [List.getElem?_eq_getElem (by rw [List.length_zip]; omega), List.getElem_zip]
      simp only [List.filterMap_cons, hz, List.getElem?_eq_getElem h, List.getElem?_eq_getElem h2, List.zip_cons_cons, List.length_cons]
      exact ⟨by rw [ih.1], by rw [ih.2]⟩
    · have h2 : ¬ i < vs.length := by omega
      have hz : (xs.zip vs)[i]? = none := List.getElem?_eq_none (by rw [List.length_zip]; omega)
      simp only [List.filterMap_cons, hz, List.getElem?_eq_none (Nat.le_of_not_lt h), List.getElem?_eq_none (Nat.le_of_not_lt h2)]
      exact ih
theorem Rs.perm {p : List Nat} {n : Nat} (h : p.Perm (List.range n)) {xs : List PV} {vs : List V} {a : AS} (l : vs.length = n) (r : Rs c H F xs vs a) : Rs c H F (gP p xs) (gP p vs) a := by
  have l2 : xs.length = vs.length := r.len.symm
  have hz : (xs.zip vs).length = n := by rw [List.length_zip]; omega
  have q := (gP_perm h hz).symm
  have r1 : Rz c H F (xs.zip vs) a := by
    unfold Rz
    rw [List.map_fst_zip (by omega), List.map_snd_zip (by omega)]
    exact r
  have r2 := Rz.perm q r1
  obtain ⟨e1, e2⟩ := gP_zip (p := p) l2
  rw [e1] at r2
  unfold Rz at r2
  rw [List.map_fst_zip (by omega), List.map_snd_zip (by omega)] at r2
  exact r2
theorem gP_back {α : Type} {n : Nat} {p q : List Nat} (h : PermOk n p q) {xs : List α} (l : xs.length = n) : gP q (gP p xs) = xs := by
  obtain ⟨hp, hq, e⟩ := h
  subst l
  -- (gP p xs)[i]? = xs[p[i]]?
  have lt : ∀ i ∈ p, i < xs.length := fun i hi => List.mem_range.mp (hp.mem_iff.mp hi)
  have at_ : ∀ (p : List Nat), (∀ i ∈ p, i < xs.length) → ∀ i : Nat, (gP p xs)[i]? = (p[i]?).bind (fun j : Nat => xs[j]?) := by
    intro p
    induction p with
    | nil => intro _ i; rfl
    | cons j p ih =>
      intro hl i
      have hj : j < xs.length := hl j List.mem_cons_self
      have e : gP (j :: p) xs = xs[j] :: gP p xs := by
        unfold gP
        simp only [List.filterMap_cons, List.getElem?_eq_getElem hj]
      rw [e]
      cases i with
      | zero => simp [hj]
      | succ i => simpa using ih (fun i h => hl i (List.mem_cons_of_mem _ h)) i
  have e2 : ∀ q : List Nat, gP q (gP p xs) = gP (gP q p) xs := by
    intro q
    induction q with
    | nil => rfl
    | cons i q ih =>
      have e1 := at_ p lt i
      cases h : p[i]? with
      | none =>
        rw [h] at e1
        have a1 : gP (i :: q) (gP p xs) = gP q (gP p xs) := by unfold gP at e1 ⊢; simp only [List.filterMap_cons, e1]; rfl
        have a2 : gP (i :: q) p = gP q p := by unfold gP; simp only [List.filterMap_cons, h]
        rw [a1, a2, ih]
      | some j =>
        rw [h] at e1
        have hj : j < xs.length := lt j (List.mem_of_getElem? h)
        have e3 : (gP p xs)[i]? = some xs[j] := by rw [e1]; simp [hj]
        have a1 : gP (i :: q) (gP p xs) = xs[j] :: gP q (gP p xs) := by unfold gP at e3 ⊢; simp only [List.filterMap_cons, e3]
        have a2 : gP (i :: q) p = j :: gP q p := by unfold gP; simp only [List.filterMap_cons, h]
        have a3 : gP (j :: gP q p) xs = xs[j] :: gP (gP q p) xs := by
          conv => lhs; unfold gP
          simp only [List.filterMap_cons, List.getElem?_eq_getElem hj]
          rfl
        rw [a1, a2, a3, ih]
  rw [e2 q]
  rw [e]
  exact gP_range xs
theorem spF_perm {n : Nat} {p q : List Nat} (h : PermOk n p q) {sem : FF} {xs : List V} {Q : VK} {E : XK} (s : spF c n (permF p q sem) xs H Q E) : spF c n sem (gP p xs) H Q E := by
  obtain ⟨l, vs, F, A, g, r, k⟩ := s
  have lp : (gP p xs).length = n := by rw [(gP_perm h.1 l).length_eq, l]
  refine ⟨lp, gP p vs, F, A, g, r.perm h.1 l, ?_⟩
  unfold permF at k
  cases q : sem (gP p vs) with
  | ok v ws =>
    simp only [q] at k ⊢
    refine fun x H' F' a b t g1 d rv rw' => k x H' F' a b t g1 d rv ?_
    have := rw'.perm h.2.1 lp
    rw [gP_back h l] at this
    exact this
  | er e ws =>
    simp only [q] at k ⊢
    refine fun cls d H' F' b t g1 rx rw' => k cls d H' F' b t g1 rx ?_
    have := rw'.perm h.2.1 lp
    rw [gP_back h l] at this
    exact this
  | bad => simp only [q] at k
end
section
variable {c : RC} {W : WX}
theorem tO.imp {o : Opd} {σ : L2.St} {H : Hp} {Q Q' : VK} (h : tO c W o σ H Q) (k : ∀ x H, Q x H → Q' x H) : tO c W o σ H Q' := by
  cases o with
  | nm i => obtain ⟨v, e, q⟩ := h; exact ⟨v, e, k _ _ q⟩
  | ev f => exact tG.imp (rel := relE c) h k
theorem tOs.imp : ∀ {os : List Opd} {σ : L2.St} {H : Hp} {K K' : List V → Hp → Prop}, tOs c W os σ H K → (∀ x H, K x H → K' x H) → tOs c W os σ H K'
  | [], _, _, _, _, h, k => k _ _ h
  | o :: os, _, _, _, _, h, k => tO.imp (o := o) h fun _ _ q => tOs.imp q fun _ _ q => k _ _ q
theorem tOs.len : ∀ {os : List Opd} {σ : L2.St} {H : Hp} {K : List V → Hp → Prop}, tOs c W os σ H K → tOs c W os σ H fun xs H1 => xs.length = os.length ∧ K xs H1
  | [], σ, H, K, h => ⟨rfl, h⟩
  | o :: os, σ, H, K, h => tO.imp (o := o) h fun x H1 q => (tOs.len q).imp fun xs H2 q2 => ⟨by rw [List.length_cons, List.length_cons, q2.1], q2.2⟩
theorem tOs.two : ∀ {os os2 : List Opd} {σ : L2.St} {H : Hp} {K : List V → Hp → Prop}, tOs c W (os ++ os2) σ H K → tOs c W os σ H fun xs H1 => xs.length = os.length ∧ tOs c W os2 σ H1 fun ys H2 => K (xs ++ ys) H2
  | [], os2, σ, H, K, h => ⟨rfl, h⟩
  | o :: os, os2, σ, H, K, h => tO.imp (o := o) h fun x H1 q => (tOs.two q).imp fun xs H2 q2 => ⟨by rw [List.length_cons, List.length_cons, q2.1], q2.2⟩
end
section
variable {X : Cx} {c : RC} {W : WX} {j k : Nat} {x : Str} {p pos : Pos} {e : Expr} {es : List Expr} {os os2 : List Opd} {sem : FF} {st : Stmt} {ps ks : List Str} {kws : List Keyword} {pp qq : List Nat} {nm : Option Str} {kpos : Pos} {o : Opd}
def SK (X : Cx) (c : RC) (W : WX) (kws : List Keyword) (os : List Opd) : Prop := PK X kws (tOs c W os)
theorem sk_nil : SK X c W [] [] := pk_nil
theorem sk_cons (h : SO X c W e o) (hs : SK X c W kws os) : SK X c W (⟨nm, e, kpos⟩ :: kws) (o :: os) := pk_cons h hs
def eCallK (sem : FF) (os : List Opd) (p q : List Nat) : EF := eCall (permF p q sem) os []
/-- how keywords bind -/
def KwB (x : Str) (st : Stmt) (ps ks : List Str) (n m : Nat) (pp : List Nat) : Prop := ∀ (kV doc pm : Value) (an : Option Addr) (cdv ct : Value) (us ws : List Value), us.length = n → ws.length = m →
  bindArgs (PySem.W.fnOf x x (defArgs st) (defBody st) (defScope st) .none kV doc pm an cdv ct) ⟨us, ks.zip ws⟩ = pure (ps.zip (gP pp (us ++ ws)))
theorem Vals.perm {vs : List V} {us : List Value} (h : Vals vs us) (p : List Nat) : Vals (gP p vs) (gP p us) := by
  have l := h.length
  unfold gP
  induction p with
  | nil => exact .nil
  | cons i p ih =>
    by_cases hi : i < vs.length
    · have h2 : i < us.length := by omega
      simp only [List.filterMap_cons, List.getElem?_eq_getElem hi, List.getElem?_eq_getElem h2]
      obtain ⟨u, e, r⟩ := h.get (List.getElem?_eq_getElem hi)
      rw [List.getElem?_eq_getElem h2] at e; cases e
      exact .cons r ih
    · have h2 : ¬ i < us.length := by omega
      simp only [List.filterMap_cons, List.getElem?_eq_none (Nat.le_of_not_lt hi), List.getElem?_eq_none (Nat.le_of_not_lt h2)]
      exact ih
theorem kw_q {os : List Opd} {n : Nat} {σ : L2.St} {H : Hp} {Q : VK} (hp : PermOk n pp qq) (hn : os.length = n) (q : tEx c W (eCallK sem os pp qq) σ H Q) : tOs c W os σ H fun xs H1 => spF c n sem (gP pp xs) H1 Q (fun cls d H' => W cls d σ H') :=
  tOs.imp (call_q (n := n) (dvs := []) (dps := []) (fun _ _ => (rfl : ([] : List V) = [])) hn q) fun xs H1 h => spF_perm hp (by rw [List.append_nil] at h; exact h)
/-- f(k = e, ..) -/
theorem e_callK0 (D : Dk X c W j) (G : Def X.prog X.w X.K X.mg X.base c k x st ps sem) (hr : k ≤ j) (hg : Gl X x) (hb : KwB x st ps ks 0 ks.length pp) (hp : PermOk ps.length pp qq) (hn : os2.length = ps.length) (hks : ks.length = ps.length)
    (ha : SK X c W kws os2) (hall : (backToKw pos (keywordEach kws X.env)).all (·.1.isSome) = true := by rfl) (he : (backToKw pos (keywordEach kws X.env)).filterMap (·.1) = ks := by rfl) (hdb : (x == ("__debug__" : Str)) = false := by decide)
    (hpl : ((backTo pos (starEach [] X.env)).any (·.1) || (backToKw pos (keywordEach kws X.env)).any (·.1.isNone)) = false := by rfl) :
    SE X c W (.Call (.Name x p) [] kws pos) (eCallK sem os2 pp qq) := by
  obtain ⟨f, fd, h1, h2, h3, h4⟩ := G
  refine ⟨fun pins s σ H Q I h => ?_⟩
  refine wpAny_Call_Name_kw (ld_glob I hg h1 ?_ hdb)
  refine PySem.W.callWith_KW0 (h₀ := X.base) I.ok.mod.kin h2.kp hall ?_ hpl
  have h' := (kw_q hp hn h).len
  refine thn (ha.run pos pins s σ H _ I h') fun ws s2 ⟨zs, H2, I2, rz, q2⟩ => ⟨I2.kIn, ?_⟩
  rw [he]
  obtain ⟨hl, q2⟩ := q2
  refine run_G (args := ⟨[], ks.zip ws⟩) h4 D.gd (D.hr.mono hr) (fun _ => ?_) (passAt D.tk σ) I2 (Tr.Vals.perm rz pp) q2
  obtain ⟨oc, od, kV, doc, pm, an, cdv, ct, osl, rfl, lk, hcd⟩ := h2.ex
  exact .of_eq (hb kV doc pm an cdv ct [] ws rfl (by rw [← rz.length, hl, hn, hks]))
/-- f(e, .., k = v, ..) -/
theorem e_callK (D : Dk X c W j) (G : Def X.prog X.w X.K X.mg X.base c k x st ps sem) (hr : k ≤ j) (hg : Gl X x) (hb : KwB x st ps ks os.length os2.length pp) (hp : PermOk ps.length pp qq) (hn : (os ++ os2).length = ps.length)
    (ha : SOs X c W (e :: es) os) (hkw : SK X c W kws os2) (hall : (backToKw pos (keywordEach kws X.env)).all (·.1.isSome) = true := by rfl) (he : (backToKw pos (keywordEach kws X.env)).filterMap (·.1) = ks := by rfl) (hdb : (x == ("__debug__" : Str)) = false := by decide)
    (hst : starEach (e :: es) X.env = (false, eval e X.env) :: starEach es X.env := by rfl)
    (hpl : ((backTo pos (starEach (e :: es) X.env)).any (·.1) || (backToKw pos (keywordEach kws X.env)).any (·.1.isNone)) = false := by rfl) :
    SE X c W (.Call (.Name x p) (e :: es) kws pos) (eCallK sem (os ++ os2) pp qq) := by
  obtain ⟨f, fd, h1, h2, h3, h4⟩ := G
  refine ⟨fun pins s σ H Q I h => ?_⟩
  refine wpAny_Call_Name_kw (ld_glob I hg h1 ?_ hdb)
  have h' := (kw_q hp hn h).two
  refine PySem.W.callWith_KW (h₀ := X.base) I.ok.mod.kin h2.kp hall (thn (ha.run pos pins s σ H _ I h') fun us s1 ⟨vs, H1, I1, r, hl1, q⟩ => ?_) hpl hst
  refine thn (hkw.run pos pins s1 σ H1 _ I1 (tOs.len q)) fun ws s2 ⟨zs, H2, I2, rz, hl, q2⟩ => ⟨I2.kIn, ?_⟩
  rw [he]
  refine run_G (args := ⟨us, ks.zip ws⟩) h4 D.gd (D.hr.mono hr) (fun _ => ?_) (passAt D.tk σ) I2 (Tr.Vals.perm (r.append rz) pp) q2
  obtain ⟨oc, od, kV, doc, pm, an, cdv, ct, osl, rfl, lk, hcd⟩ := h2.ex
  exact .of_eq (hb kV doc pm an cdv ct us ws (by rw [← r.length, hl1]) (by rw [← rz.length, hl]))
end
end Tr
set_option Elab.async false
set_option linter.all false
/-! Tr.Set: set(list of ints), and what is sorted of it. -/
namespace Tr
open PySem PySem.Spec PyProof.Rows L2
section
variable {P : Program} {w : World} {A : Around} {E : Value → Shared → Prop} {s : Shared}
/-- the object that set.__new__ lays -/
abbrev set0 (w : World) : Obj := { cls := .type "set", dict := none, data := .set #[] 0 (.fresh 0 0 (!w.params.followText "set-order")) }
set_option maxRecDepth 100000 in
set_option maxHeartbeats 3200000 in
theorem tr_set_list {l : Addr} {items : Array Value} (ns : List Int) {Q : Value → Shared → Prop} (hh : A.handled = none) (hl : s.heap.IsList l items) (hit : IntsAre items.toList ns) (hb : ns.length + 1 < scanBound)
    (h : ∀ (h' : Heap) (tk c : Nat), SetR w h' s.heap.objs.size (fun j => decide (j ∈ ns)) c → c ≤ ns.length → (∀ b o, s.heap.get? b = some o → h'.get? b = some o) → Q (.ref s.heap.objs.size) { s with heap := h', toks := tk }) :
    wpAny (model P w) A (call (.type "set") [.ref l]) Q E s := by
  have hn : items.size = ns.length := by rw [← IntsAre.length hit, Array.length_toList]
  obtain ⟨c, tl, hmro⟩ := F.called_set.mro
  have hmade := F.called_set.made
  have hsub := F.called_set.sub
  refine wpAny_call (codeAny_of_tree ?_)
  show wpAny _ _ (callAny (.type "set") _) _ _ _
  refine wpAny_pure ⟨Code.quiet_builtin _ (by decide +kernel), codeAny_builtin F.entry_type_call ?_⟩
  rw [Around.under_plain (weight_type_call_type "set" [.ref l] []) rfl]
  have t1 := F.called_set.notType
  have t2 := F.called_set.canCreate
  have t3 := F.typeCall_set_1 (.ref l)
  repeat (any_goals (first | assumption | wp_step))
  refine codeAny_mono (code_set_led1 (.ref l) (E := E) (Q₁ := fun obj s₁ => obj = .ref s.heap.objs.size ∧ s₁ = { s with heap := s.heap.push (set0 w) }) ⟨rfl, rfl⟩) fun r s₁ hr => ?_
  cases r with
  | error e => exact hr
  | ok fl =>
    cases fl with
    | ret obj =>
      obtain ⟨rfl, rfl⟩ := hr
      have at0 : (s.heap.push (set0 w)).get? s.heap.objs.size = some (set0 w) := Heap.get?_push_size _ rfl
      have ty0 : Shared.TypeIs { s with heap := s.heap.push (set0 w) } (.ref s.heap.objs.size) "set" := ⟨_, at0, rfl⟩
      have t4 := F.called_set.init.lookup
      have t5 := F.called_set.init.bind (.ref s.heap.objs.size)
      repeat (any_goals (first | assumption | wp_step))
      refine codeAny_mono (codeAny_call_builtin (R := wants (fun r s₂ => r = .none ∧ ∃ h' tk c, s₂ = { s with heap := h', toks := tk } ∧ SetR w h' s.heap.objs.size (fun j => decide (j ∈ ns)) c ∧ c ≤ ns.length ∧
          (∀ b o, s.heap.get? b = some o → h'.get? b = some o)) E) F.called_set.init.plain F.entry_set_init (check_set_init_1 ty0 ?_)) fun r₂ s₂ hr₂ => ?_
      · obtain ⟨⟨ocls, odict, odata, oslots⟩, hol, hcl, nl, hdl⟩ := hl
        simp only at hcl hdl
        subst hcl; subst hdl
        have lt : l < s.heap.objs.size := Heap.lt_size hol
        have sz : (s.heap.push (set0 w)).objs.size = s.heap.objs.size + 1 := Heap.size_push ..
        have ne1 : l ≠ (s.heap.push (set0 w)).objs.size := by rw [sz]; exact Nat.ne_of_lt (Nat.lt_succ_of_lt lt)
        have ol : (s.heap.push (set0 w)).get? l = some { cls := .type "list", dict := odict, data := .seq items nl, slots := oslots } := Heap.get?_push_of_some _ hol
        have isl : (s.heap.push (set0 w)).IsList l items := ⟨_, ol, rfl, nl, rfl⟩
        have u1 := F.sub_list_set
        have u2 := F.sub_list_frozenset
        have u3 : (Value.type "list" == Value.type "dict") = false := by decide
        unfold Builtin.«set.__init__» noKeywords Builtin.Frozenset.updateFrom
        generalize hPI : pyIter = PI
        wp_walk
        subst hPI
        refine wpAny_pyIter_list isl (wpAny_bind (wpAny_runValue ?_))
        have out : s.heap.objs.size ∉ [(s.heap.push (set0 w)).objs.size, l] := by
          simp only [List.mem_cons, List.not_mem_nil, or_false, not_or]
          exact ⟨by rw [sz]; exact Nat.ne_of_lt (Nat.lt_succ_self _), Nat.ne_of_gt lt⟩
        refine set_update_ints ((Walks.list (show A.in1.in1.in1.handled = none by simp [hh]) _ l ne1 items).toS) s.heap.objs.size out ns hn hb (fun i v hv => ?hval) (items.size - 0) 0 _ (by omega) (Nat.zero_le _)
          ⟨⟨_, Heap.get?_push_size _ rfl, rfl, rfl⟩, (isl.push _)⟩ ⟨0, Nat.le_refl 0, setR_new_at (Heap.get?_push_of_some _ at0)⟩ fun s' c' hm hc' hS' => ?hR
        case hval =>
          have hi : i < ns.length := by rw [← hn]; exact (Array.getElem?_eq_some_iff.mp hv).1
          obtain ⟨t, e⟩ := IntsAre.int_at hit i v (by rw [Array.getElem?_toList]; exact hv)
          refine ⟨ns[i], t, List.getElem?_eq_getElem hi, ?_⟩
          rw [e, List.getD_eq_getElem?_getD, List.getElem?_eq_getElem hi] <;> rfl
        case hR =>
          obtain ⟨h', g2, d', tk', os'⟩ := s'
          obtain rfl : g2 = s.gens := hm.gens
          obtain rfl : d' = s.drawn := hm.drawn
          obtain rfl : os' = s.os := hm.os
          rw [hn] at hc'
          show wpAny _ _ _ _ _ _
          refine wpAny_pure ?_
          show wpAny _ _ (ret Value.none) _ _ _
          refine wpAny_pure ⟨rfl, h', tk', c', rfl, hS', hc', fun b o e => ?_⟩
          have lb : b < s.heap.objs.size := Heap.lt_size e
          exact hm.heap b o (by simp only [List.mem_cons, List.not_mem_nil, or_false, not_or]; exact ⟨Nat.ne_of_lt lb, by rw [sz]; exact Nat.ne_of_lt (Nat.lt_succ_of_lt lb)⟩) (Heap.get?_push_of_some _ (Heap.get?_push_of_some _ e))
      · cases r₂ with
        | error e => exact hr₂
        | ok fl₂ =>
          cases fl₂ with
          | ret r =>
            obtain ⟨rfl, h', tk, c', rfl, hS', hc', hk'⟩ := hr₂
            repeat (any_goals (first | assumption | wp_step))
            exact h _ _ _ hS' hc' hk'
          | _ => exact hr₂.elim
    | _ => exact hr.elim
end
end Tr

namespace Tr
open PySem PySem.Spec L2
theorem insU_mem (x : Int) : ∀ {ys : List Int} {k : Int}, k ∈ insU x ys ↔ k = x ∨ k ∈ ys
  | [], k => by simp [insU]
  | y :: ys, k => by
    unfold insU
    split
    · simp
    · split
      · rename_i h; subst h; simp
      · rw [List.mem_cons, insU_mem x, List.mem_cons]
        constructor
        · rintro (h | h | h) <;> simp [h]
        · rintro (h | h | h) <;> simp [h]
theorem insU_inc (x : Int) : ∀ {ys : List Int}, ys.Pairwise (· < ·) → (insU x ys).Pairwise (· < ·)
  | [], _ => by simp [insU]
  | y :: ys, h => by
    obtain ⟨h1, h2⟩ := List.pairwise_cons.mp h
    unfold insU
    split
    · rename_i q
      refine List.pairwise_cons.mpr ⟨fun z hz => ?_, h⟩
      rcases List.mem_cons.mp hz with e | e
      · rw [e]; exact q
      · have := h1 z e; omega
    · split
      · exact h
      · refine List.pairwise_cons.mpr ⟨fun z hz => ?_, insU_inc x h2⟩
        rcases (insU_mem x).mp hz with e | e
        · omega
        · exact h1 z e
theorem sortU_mem : ∀ {xs : List Int} {k : Int}, k ∈ sortU xs ↔ k ∈ xs
  | [], k => by simp [sortU]
  | x :: xs, k => by
    show k ∈ insU x (sortU xs) ↔ _
    rw [insU_mem, sortU_mem, List.mem_cons]
theorem sortU_inc : ∀ {xs : List Int}, (sortU xs).Pairwise (· < ·)
  | [] => by simp [sortU]
  | x :: xs => insU_inc x sortU_inc
theorem inc_eq : ∀ {xs ys : List Int}, xs.Pairwise (· < ·) → ys.Pairwise (· < ·) → (∀ k, k ∈ xs ↔ k ∈ ys) → xs = ys
  | [], [], _, _, _ => rfl
  | [], y :: ys, _, _, h => by have := (h y).mpr List.mem_cons_self; cases this
  | x :: xs, [], _, _, h => by have := (h x).mp List.mem_cons_self; cases this
  | x :: xs, y :: ys, hx, hy, h => by
    obtain ⟨x1, x2⟩ := List.pairwise_cons.mp hx
    obtain ⟨y1, y2⟩ := List.pairwise_cons.mp hy
    have e : x = y := by
      rcases List.mem_cons.mp ((h x).mp List.mem_cons_self) with e | e
      · exact e
      · rcases List.mem_cons.mp ((h y).mpr List.mem_cons_self) with e2 | e2
        · exact e2.symm
        · have := y1 x e; have := x1 y e2; omega
    subst e
    rw [inc_eq x2 y2 fun k => ?_]
    constructor
    · intro hk
      rcases List.mem_cons.mp ((h k).mp (List.mem_cons_of_mem _ hk)) with e | e
      · have := x1 k hk; omega
      · exact e
    · intro hk
      rcases List.mem_cons.mp ((h k).mpr (List.mem_cons_of_mem _ hk)) with e | e
      · have := y1 k hk; omega
      · exact e
section
variable {X : Cx} {c : RC} {W : WX} {k : Nat} {pos pos2 p p2 : Pos} {a : Expr} {oa : Opd}
def rSetL (K : PySem.W.Frag) (w : World) : List V → Hp → VK → Prop := fun xs H Q => ∃ (p : Addr) (ns : List Int), xs = [V.ref p] ∧ SqL K H p (ns.map V.int) ∧ ns.length + 1 < scanBound ∧
  ∀ (q : Addr) (n : Nat), n ≤ ns.length → H q = none → Q (.ref q) (upd H q (SetO w q (fun j => decide (j ∈ ns)) n))
theorem cr_setL (hc : X.calm = true) : CallR X (.type "set") (rSetL X.K X.w) := by
  intro pins s σ H vs us Q I r h
  obtain ⟨p, ns, rfl, hs, hb, q⟩ := h
  obtain ⟨its, rv, hl, _⟩ := I.list hs
  rw [Vals.ref1 r]
  refine tr_set_list ns (I.ok.hd hc) hl.isList (ints_of_vals rv) hb fun h' tk n R hn kp => ?_
  exact ⟨.ref _, upd H s.heap.objs.size (SetO X.w s.heap.objs.size (fun j => decide (j ∈ ns)) n), I.laid (t' := tk) (fun b u e => kp b u e) (Nat.le_refl _) (setO_new R), rfl, q _ _ hn (I.hok.fresh (Nat.le_refl _))⟩
/-- sorted(set(a)) -/
theorem e_sortSet (D : Dk X c W k) (hm : X.mg "sorted" = none) (hg : Gl X "sorted") (hm2 : X.mg "set" = none) (hg2 : Gl X "set") (ha : SO X c W a oa) 
    (st : starEach [a] X.env = (false, eval a X.env) :: starEach [] X.env := by rfl) (he : (backTo pos2 (starEach [] X.env)).any (·.1) = false := by rfl) (he2 : (backTo pos (starEach [] X.env)).any (·.1) = false := by rfl)
    (st2 : starEach [.Call (.Name "set" p2) [a] [] pos2] X.env = (false, eval (.Call (.Name "set" p2) [a] [] pos2) X.env) :: starEach [] X.env := by rfl) :
    SE X c W (.Call (.Name "sorted" p) [.Call (.Name "set" p2) [a] [] pos2] [] pos) (eP1 fSortSet oa) := by
  refine PE.weak (pe_callB (cr_sortedSet D.calm) hg hm (by decide +kernel) (pa_cons (pe_callTy (cr_setL D.calm) hg2 hm2 (by decide +kernel) (pa_cons ha pa_nil st) (by decide) (by decide) st he) pa_nil st2) (by decide) (by decide) st2 he2) fun σ H Q q => ?_
  refine tO.one q fun v x z ρ1 H1 F1 A1 b g sb e ⟨_, _, r⟩ kk p => ?_
  have q1 : Fin c H1 F1 z Q := p.fin g sb e
  cases v with
  | lst w xs =>
    simp only [fSortSet] at kk
    cases ei : Tr.allI xs with
    | none => rw [ei] at kk; cases kk
    | some is =>
      rw [ei, Option.bind_some] at kk
      split at kk
      · rename_i h64
        cases kk
        obtain ⟨p0, vs, bb, rfl, r1, l, _, rs⟩ := r.lstR
        have ev := rs.ints ei
        subst ev
        refine ⟨p0, is, rfl, .inl r1, by unfold scanBound; omega, fun qq n hn hq => ?_⟩
        refine ⟨qq, _, n, rfl, upd_same, by omega, fun ns pp inc mem len hp => ?_⟩
        have en : ns = sortU is := inc_eq inc sortU_inc fun k => by rw [mem k, sortU_mem, decide_eq_true_eq]
        subst en
        have g0 : Good H1 F1 Emp := g.sub Sub.emp
        have s1 : Stp H1 F1 Emp (upd H1 qq (SetO X.w qq (fun j => decide (j ∈ is)) n)) F1 Emp := Stp.newT hq
        have g1 : Good (upd H1 qq (SetO X.w qq (fun j => decide (j ∈ is)) n)) F1 Emp := g0.newT hq
        have q2 : Fin c (upd H1 qq (SetO X.w qq (fun j => decide (j ∈ is)) n)) F1 (.lst true ((sortU is).map .int)) Q := fun x' H' a s g r => q1 x' H' a (s1.trans s) g r
        have rsI : ∀ l : List Int, Rs c (upd H1 qq (SetO X.w qq (fun j => decide (j ∈ is)) n)) F1 (l.map .int) (l.map V.int) Emp := by
          intro l
          induction l with
          | nil => rfl
          | cons x l ih => exact ⟨_, _, Emp, Emp, rfl, Sub.emp, Sub.emp, Dis.empl, rfl, ih⟩
        exact q2.lst g1 (rsI _) (by rw [List.length_map, len]; unfold big; omega) hp
      · cases kk
  | _ => cases kk
end
end Tr
set_option Elab.async false
set_option linter.all false
set_option maxRecDepth 100000
set_option maxHeartbeats 4000000
/-! Tr.Repr: repr of lists and tuples; texts walked; what the head needs of a law. -/
namespace Tr
open PySem PySem.Spec L2
def fRepr : PV → Option PV
  | .lst w xs => if dat deep (.lst w xs) && (toPD (.lst w xs)).showable && sOk (toPD (.lst w xs)).shown then some (.str (toPD (.lst w xs)).shown) else none
  | .tup xs => if dat deep (.tup xs) && (toPD (.tup xs)).showable && sOk (toPD (.tup xs)).shown then some (.str (toPD (.tup xs)).shown) else none
  | _ => none
mutual
theorem toPD_dict : ∀ {v : PV}, (toPD v).hasDict = false
  | .tup xs => by rw [toPD, PyData.hasDict]; exact toPDs_dict
  | .lst _ xs => by rw [toPD, PyData.hasDict]; exact toPDs_dict
  | .dct .. => rfl | .ins .. => rfl | .con _ => rfl | .exc .. => rfl
  | .non => rfl | .bl _ => rfl | .int _ => rfl | .str _ => rfl
theorem toPDs_dict : ∀ {xs : List PV}, PyData.hasDictAll (toPDs xs) = false
  | [] => rfl
  | x :: xs => by rw [toPDs, PyData.hasDictAll, toPD_dict, toPDs_dict]; rfl
end
section
variable {X : Cx} {c : RC} {W : WX} {k : Nat} {pos pos2 p p2 : Pos} {a : Expr} {oa : Opd}
def rRepr (K : PySem.W.Frag) : List V → Hp → VK → Prop := fun xs H Q => ∃ (q : Addr) (d : PyData), xs = [V.ref q] ∧ Dp K H (.ref q) d ∧ d.showable = true ∧ d.hasDict = false ∧ d.depth ≤ 20 ∧ d.shown.length ≤ sizeLine ∧ Q (.str d.shown) H
theorem cr_repr (hg : X.A.guards = some []) (hu : X.A.units + 64 < cLine) : CallR X (.builtin "repr") (rRepr X.K) := by
  intro pins s σ H vs us Q I r h
  obtain ⟨q, d, rfl, hd, hs, hdi, hdp, hz, hq⟩ := h
  obtain ⟨as, rd⟩ := Dp.reads I d _ (Value.ref q) hd rfl
  rw [Vals.ref1 r]
  exact repr_of_reads' rd hs (fun e => by rw [hdi] at e; cases e) hg (by omega) (fun _ _ e => e) (fun h' u tk hk => ⟨.str d.shown, H, I.kept hk, ⟨_, rfl⟩, hq⟩) hz
theorem k_repr : K1 c (fun v => rRepr c.K [v]) fRepr := by
  intro v z x H F Q A g r k q
  have go : ∀ v : PV, R c H F v x A → (∃ a, x = .ref a) → (if dat deep v && (toPD v).showable && sOk (toPD v).shown then some (PV.str (toPD v).shown) else none) = some z → rRepr c.K [x] H Q := fun v r ⟨a, ea⟩ k => by
    split at k
    · rename_i h
      cases k
      simp only [Bool.and_eq_true] at h
      subst ea
      obtain ⟨d1, _, d3⟩ := R.dp deep h.1.1 r
      refine ⟨a, toPD v, rfl, d1, h.1.2, toPD_dict, d3, ?_, q.now g ⟨rfl, h.2⟩⟩
      have := h.2
      unfold sOk at this
      simp only [Bool.and_eq_true, decide_eq_true_eq] at this
      exact this.1
    · cases k
  cases v with
  | lst w xs => exact go _ r (by obtain ⟨p, _, _, e, _⟩ := r.lstR; exact ⟨p, e⟩) k
  | tup xs => exact go _ r (by obtain ⟨p, _, e, _⟩ := r.tupR; exact ⟨p, e⟩) k
  | _ => cases k
theorem e_repr (D : Dk X c W k) (hm : X.mg "repr" = none) (hg : Gl X "repr") (ha : SO X c W a oa) (st : starEach [a] X.env = (false, eval a X.env) :: starEach [] X.env := by rfl) (he : (backTo pos (starEach [] X.env)).any (·.1) = false := by rfl) :
    SE X c W (.Call (.Name "repr" p) [a] [] pos) (eP1 fRepr oa) := se_call1 (cr_repr D.gd D.hr.units) (by rw [D.K]; exact k_repr) hg hm (by decide +kernel) ha (by decide) (by decide) st he

/-! a text walked -/
def iS (f : EF) : IF := fun ρ => (f ρ).bind fun v ρ1 => match v with
  | .str x => .ok (x.cps.toList.map fun c => .str ⟨#[c]⟩) ρ1
  | _ => .bad
theorem src_str {x : Str} (h : sOk x = true) : Src c (Its x) (fun _ _ => True) Emp (x.cps.toList.map fun c => .str ⟨#[c]⟩) where
  len := by
    unfold sOk at h
    simp only [Bool.and_eq_true, decide_eq_true_eq] at h
    rw [List.length_map]
    exact h.1
  go := fun i H F h l => by show i < x.cps.size; simpa using l
  stop := fun H F h => by show x.cps.size ≤ _; simp
  yld := fun i H F y H' z hh g yy e => by
    obtain ⟨rfl, cc, hc, rfl⟩ := yy
    rw [List.getElem?_map, Array.getElem?_toList, hc] at e
    cases e
    refine ⟨Stp.refl, rfl, ?_⟩
    unfold sOk at h ⊢
    simp only [Bool.and_eq_true, decide_eq_true_eq, Array.all_eq_true] at h ⊢
    refine ⟨by show (1 : Nat) ≤ _; decide, ?_⟩
    intro i hi
    have : i = 0 := by simp at hi; omega
    subst this
    obtain ⟨hlt, he⟩ := Array.getElem?_eq_some_iff.mp hc
    have := h.2 _ hlt
    simp only [he] at this
    simpa using this
  step := fun H F A H' F' A' h g s d => trivial
theorem si_str {tg it : Expr} {f : EF} (h : SE X c W it f) : SI X c W tg it (iS f) := by
  refine PI.weak (pi_str h) fun σ H Q q => ?_
  refine tG.bind (rel := relE c) q fun v x ρ1 H1 F1 a b g d r e p => ?_
  cases v with
  | str z =>
    obtain ⟨rfl, hz⟩ := (show x = .str z ∧ sOk z = true from r)
    exact ⟨z, rfl, p.now g Sub.r ⟨_, trivial, src_str hz⟩ e⟩
  | _ => exact p.elim
end
end Tr
namespace Tr
def fxAdd (fx : Nat → Bool) (i : Nat) : Nat → Bool := fun j => decide (j = i) || fx j
theorem fxAdd_le {fx : Nat → Bool} {i : Nat} : ∀ j, fx j = true → fxAdd fx i j = true := fun j h => by unfold fxAdd; rw [h, Bool.or_true]
theorem fxAdd_at {fx : Nat → Bool} {i : Nat} : fxAdd fx i i = true := by unfold fxAdd; simp
end Tr
set_option Elab.async false
set_option linter.all false
set_option maxRecDepth 100000
/-! Tr.End: what the row's head asks of a law. -/
namespace Tr
open PySem PySem.Spec L2
section
variable {K : PySem.W.Frag} {mg : Str → Option Value} {h : Heap} {c : RC}
theorem mkDef {x : Str} {st : Stmt} {ps : List Str} {f : Addr} {oc : Value} {od an : Option Addr} {osl : Array (Option Value)} {kV doc pm cdv ct : Value} (X : K.In h) (G : h.Ns mainGlobals mg)
    (a : PySem.W.nsIn K mainGlobals x = some (some (.ref f))) (l : K.lookup f = some ⟨oc, od, .func (PySem.W.fnOf x x (defArgs st) (defBody st) (defScope st) .none kV doc pm an cdv ct), osl⟩)
    (cd : PySem.W.codeIn K cdv x = true) (k : PySem.W.keepIn K (.ref f) = true)
    (hb : ∀ (kV doc pm : Value) (an : Option Addr) (cdv ct : Value) (us : List Value), us.length = ps.length → bindArgs (PySem.W.fnOf x x (defArgs st) (defBody st) (defScope st) .none kV doc pm an cdv ct) ⟨us, []⟩ = pure (ps.zip us)) :
    ∃ f fd, mg x = some (.ref f) ∧ Fun K x x st f fd ∧ Binds K fd ps [] := by
  have F := fun_mk (st := st) l cd k
  exact ⟨f, _, PySem.W.mg_of X G a, F, F.binds hb⟩
theorem glob_kint {x : Str} {i : Int} {t : Tok} (X : K.In h) (G : h.Ns mainGlobals mg) (e : PySem.W.nsIn K mainGlobals x = some (some (.int i t))) : GlobOk c mg x (.int i) := glob_int ⟨t, PySem.W.mg_of X G e⟩
theorem glob_kstr {x z : Str} {t : Tok} (hz : sOk z = true) (X : K.In h) (G : h.Ns mainGlobals mg) (e : PySem.W.nsIn K mainGlobals x = some (some (.str z t))) : GlobOk c mg x (.str z) := glob_str hz ⟨t, PySem.W.mg_of X G e⟩
theorem glob_lint {x : Str} {i : Int} {lv : List (Str × PySem.W.WData)} (L : PySem.W.LooseAre lv mg h) (e : (x, PySem.W.WData.int i) ∈ lv) : GlobOk c mg x (.int i) := by
  obtain ⟨v, h1, h2⟩ := L.val _ e
  cases h2
  exact glob_int ⟨_, h1⟩
/-- a def's own head: its object, its promise over every base -/
theorem def_head {P : Program} {w : World} {k : Nat} {x : Str} {st : Stmt} {ps : List Str} {sem : FF} {fa : Addr} (hfa : mg x = some (.ref fa)) (hd : ∃ f fd, mg x = some (.ref f) ∧ Fun K x x st f fd ∧ Binds K fd ps [])
    {y : Str} (hb : ∀ (kV doc pm : Value) (an : Option Addr) (cdv ct : Value) (u : Value), bindArgs (PySem.W.fnOf x x (defArgs st) (defBody st) (defScope st) .none kV doc pm an cdv ct) ⟨[u], []⟩ = pure [(y, u)])
    (F : ∀ base : Heap, Def P w K mg base c k x st ps sem) :
    ∃ fd : FuncData, (∀ (s : Shared) (u : Value), BindsTo s fd ⟨[u], []⟩ [(y, u)]) ∧ ∀ base : Heap, K.In base → base.Ns mainGlobals mg → FnG P w K mg base (L2.CX P w) k fa fd ps (spF c ps.length sem) := by
  obtain ⟨f, fd, h1, h2, h3⟩ := hd
  rw [hfa] at h1; cases h1
  refine ⟨fd, fun s u => ?_, fun base _ _ => ?_⟩
  · obtain ⟨oc, od, kV, doc, pm, an, cdv, ct, osl, rfl, lk, hcd⟩ := h2.ex
    exact .of_eq (hb kV doc pm an cdv ct u)
  · obtain ⟨f', fd', e1, e2, e3, e4⟩ := F base
    rw [hfa] at e1; cases e1
    obtain ⟨oc, od, kV, doc, pm, an, cdv, ct, osl, rfl, lk, hcd⟩ := h2.ex
    obtain ⟨oc', od', kV', doc', pm', an', cdv', ct', osl', rfl, lk', hcd'⟩ := e2.ex
    rw [lk] at lk'
    cases lk'
    exact e4
/-- the script handed in -/
theorem head_sp {sem : FF} {H : Hp} {a : Addr} {ns : List Int} {n : Nat} (hl : ns.length ≤ n) (hn : n ≤ big) (ho : ∃ o, H a = some (.frz o (.lst (ns.map V.int)))) (t : ∃ as, sem [.lst false (ns.map .int)] = .ok (.bl true) as) :
    spF c 1 sem [.ref a] H (fun v _ => v = .bl true) fun _ _ _ => False := by
  obtain ⟨o, ho⟩ := ho
  obtain ⟨as, t⟩ := t
  have rsI : ∀ l : List Int, Rs c H (fun p => p = a) (l.map .int) (l.map V.int) Emp := by
    intro l
    induction l with
    | nil => rfl
    | cons x l ih => exact ⟨_, _, Emp, Emp, rfl, Sub.emp, Sub.emp, Dis.empl, rfl, ih⟩
  refine ⟨rfl, [.lst false (ns.map .int)], fun p => p = a, Emp, ⟨fun p h => h.elim, fun p h => ⟨_, h ▸ ho⟩⟩, ⟨_, [], Emp, Emp, rfl, Sub.emp, Sub.emp, Dis.empl, ⟨a, ns.map V.int, rfl, ⟨⟨.inr ⟨o, ho⟩, rfl⟩, ?_⟩, rsI ns⟩, rfl⟩, ?_⟩
  · rw [List.length_map]; exact Nat.le_trans hl hn
  · rw [t]
    exact fun x H' F' a b s g d r rs => r
end
end Tr
set_option Elab.async false
set_option linter.all false
set_option maxRecDepth 100000
/-! Tr.Srt: sorted(list of ints). -/
namespace Tr
open PySem PySem.Spec L2
def insD (x : Int) : List Int → List Int
  | [] => [x]
  | y :: ys => if x ≤ y then x :: y :: ys else y :: insD x ys
def sortD (xs : List Int) : List Int := xs.foldr insD []
def fSorted : PV → Option PV
  | .lst _ xs => (Tr.allI xs).bind fun is => if is.length ≤ big then some (.lst true ((sortD is).map .int)) else none
  | _ => none
theorem insD_perm (x : Int) : ∀ ys, (insD x ys).Perm (x :: ys)
  | [] => List.Perm.refl _
  | y :: ys => by
    unfold insD
    split
    · exact List.Perm.refl _
    · exact ((insD_perm x ys).cons y).trans (List.Perm.swap x y ys)
theorem insD_inc (x : Int) : ∀ {ys : List Int}, ys.Pairwise (· ≤ ·) → (insD x ys).Pairwise (· ≤ ·)
  | [], _ => by simp [insD]
  | y :: ys, h => by
    obtain ⟨h1, h2⟩ := List.pairwise_cons.mp h
    unfold insD
    split
    · rename_i q
      refine List.pairwise_cons.mpr ⟨fun z hz => ?_, h⟩
      rcases List.mem_cons.mp hz with e | e
      · omega
      · have := h1 z e; omega
    · refine List.pairwise_cons.mpr ⟨fun z hz => ?_, insD_inc x h2⟩
      rcases List.mem_cons.mp ((insD_perm x ys).mem_iff.mp hz) with e | e
      · omega
      · exact h1 z e
theorem sortD_perm : ∀ xs, (sortD xs).Perm xs
  | [] => List.Perm.refl _
  | x :: xs => (insD_perm x _).trans ((sortD_perm xs).cons x)
theorem sortD_inc : ∀ {xs : List Int}, (sortD xs).Pairwise (· ≤ ·)
  | [] => List.Pairwise.nil
  | x :: xs => insD_inc x sortD_inc
theorem perm_inc : ∀ {xs ys : List Int}, xs.Perm ys → xs.Pairwise (· ≤ ·) → ys.Pairwise (· ≤ ·) → xs = ys
  | [], ys, p, _, _ => by rw [p.symm.eq_nil]
  | x :: xs, [], p, _, _ => by have := p.eq_nil; cases this
  | x :: xs, y :: ys, p, hx, hy => by
    obtain ⟨x1, x2⟩ := List.pairwise_cons.mp hx
    obtain ⟨y1, y2⟩ := List.pairwise_cons.mp hy
    have e : x = y := by
      rcases List.mem_cons.mp (p.mem_iff.mp List.mem_cons_self) with e | e
      · exact e
      · rcases List.mem_cons.mp (p.mem_iff.mpr List.mem_cons_self) with e2 | e2
        · exact e2.symm
        · have := y1 x e; have := x1 y e2; omega
    subst e
    rw [perm_inc p.cons_inv x2 y2]
section
variable {X : Cx} {c : RC} {W : WX} {k : Nat} {pos p : Pos} {a : Expr} {oa : Opd}
theorem k_sorted : K1 c (fun v => rSortedI c.K [v]) fSorted := by
  intro v z x H F Q A g r k q
  cases v with
  | lst w xs =>
    simp only [fSorted] at k
    cases ei : Tr.allI xs with
    | none => rw [ei] at k; cases k
    | some is =>
      rw [ei, Option.bind_some] at k
      split at k
      · rename_i hl
        cases k
        obtain ⟨p0, vs, bb, rfl, r1, l, _, rs⟩ := r.lstR
        have ev := rs.ints ei
        subst ev
        refine ⟨p0, is, rfl, .inl r1, fun ns pp pm inc hp => ?_⟩
        have en : ns = sortD is := perm_inc (pm.trans (sortD_perm is).symm) inc sortD_inc
        subst en
        have rsI : ∀ l : List Int, Rs c H F (l.map .int) (l.map V.int) Emp := by
          intro l
          induction l with
          | nil => rfl
          | cons x l ih => exact ⟨_, _, Emp, Emp, rfl, Sub.emp, Sub.emp, Dis.empl, rfl, ih⟩
        exact q.lst g (rsI _) (by rw [List.length_map, (sortD_perm is).length_eq]; exact hl) hp
      · cases k
  | _ => cases k
theorem e_sorted (D : Dk X c W k) (hm : X.mg "sorted" = none) (hg : Gl X "sorted") (ha : SO X c W a oa) (st : starEach [a] X.env = (false, eval a X.env) :: starEach [] X.env := by rfl) (he : (backTo pos (starEach [] X.env)).any (·.1) = false := by rfl) :
    SE X c W (.Call (.Name "sorted" p) [a] [] pos) (eP1 fSorted oa) := se_call1 cr_sortedI (by rw [D.K]; exact k_sorted) hg hm (by decide +kernel) ha (by decide) (by decide) st he
end
end Tr
set_option Elab.async false
set_option linter.all false
set_option autoImplicit false
/-! Tr.Ev: the functions on trees, run by simp: every construct as an equation whose continuation stays closed. -/
namespace Tr.Ev
open Tr
open PySem (Str)
variable {ρ ρ' : Env} {e : PExc} {v w : PV}
/-! slots -/
@[simp] theorem slot_zero {a : Option PV} : slot (a :: ρ) 0 = a := by cases a <;> rfl
@[simp] theorem slot_succ {a : Option PV} {n : Nat} : slot (a :: ρ) (n + 1) = slot ρ n := (rfl)
/-! operands -/
def gN (ρ : Env) (o : Option PV) : Res (Option PV) := match o with
  | some _ => .ok none ρ
  | none => .bad
def gE (r : Res PV) : Res (Option PV) := match r with
  | .ok v ρ => .ok (some v) ρ
  | .er e ρ => .er e ρ
  | .bad => .bad
@[simp] theorem go_nm {i : Nat} : Opd.go (.nm i) ρ = gN ρ (slot ρ i) := (rfl)
@[simp] theorem gN_some : gN ρ (some v) = .ok none ρ := (rfl)
@[simp] theorem gN_none : gN ρ none = .bad := (rfl)
@[simp] theorem go_ev {f : EF} : Opd.go (.ev f) ρ = gE (f ρ) := by
  show (f ρ).bind (fun v ρ1 => .ok (some v) ρ1) = gE (f ρ)
  cases f ρ <;> rfl
@[simp] theorem gE_ok : gE (.ok v ρ) = .ok (some v) ρ := (rfl)
@[simp] theorem gE_er : gE (.er e ρ) = .er e ρ := (rfl)
@[simp] theorem gE_bad : gE .bad = .bad := (rfl)
@[simp] theorem get_nm {i : Nat} {t : Option PV} : Opd.get (.nm i) t ρ = slot ρ i := (rfl)
@[simp] theorem get_ev {f : EF} {t : Option PV} : Opd.get (.ev f) t ρ = t := (rfl)
section
variable {β : Type} {a b c : Opd} {k : PV → Option β} {k2 : PV → PV → Option β} {k3 : PV → PV → PV → Option β} {t u : Option PV}
def o1 (a : Opd) (k : PV → Option β) : Res (Option PV) → Res β
  | .ok t ρ => .of ((a.get t ρ).bind k) ρ
  | .er e ρ => .er e ρ
  | .bad => .bad
theorem op1_eq : op1 a k ρ = o1 a k (a.go ρ) := by unfold op1 o1; cases a.go ρ <;> rfl
@[simp] theorem o1_ok : o1 a k (.ok t ρ) = .of ((a.get t ρ).bind k) ρ := (rfl)
@[simp] theorem o1_er : o1 a k (.er e ρ) = .er e ρ := (rfl)
@[simp] theorem o1_bad : o1 a k .bad = .bad := (rfl)
def o2b (a b : Opd) (k : PV → PV → Option β) (t : Option PV) : Res (Option PV) → Res β
  | .ok u ρ => .of ((a.get t ρ).bind fun v => (b.get u ρ).bind fun w => k v w) ρ
  | .er e ρ => .er e ρ
  | .bad => .bad
def o2 (a b : Opd) (k : PV → PV → Option β) : Res (Option PV) → Res β
  | .ok t ρ => o2b a b k t (b.go ρ)
  | .er e ρ => .er e ρ
  | .bad => .bad
theorem op2_eq : op2 a b k2 ρ = o2 a b k2 (a.go ρ) := by
  unfold op2 o2
  cases a.go ρ with
  | ok t ρ1 => simp only [Res.bind_ok]; unfold o2b; cases b.go ρ1 <;> rfl
  | er => rfl
  | bad => rfl
@[simp] theorem o2_ok : o2 a b k2 (.ok t ρ) = o2b a b k2 t (b.go ρ) := (rfl)
@[simp] theorem o2_er : o2 a b k2 (.er e ρ) = .er e ρ := (rfl)
@[simp] theorem o2_bad : o2 a b k2 .bad = .bad := (rfl)
@[simp] theorem o2b_ok : o2b a b k2 t (.ok u ρ) = .of ((a.get t ρ).bind fun v => (b.get u ρ).bind fun w => k2 v w) ρ := (rfl)
@[simp] theorem o2b_er : o2b a b k2 t (.er e ρ) = .er e ρ := (rfl)
@[simp] theorem o2b_bad : o2b a b k2 t .bad = .bad := (rfl)
end
@[simp] theorem eP1_eq {k : PV → Option PV} {a : Opd} : eP1 k a ρ = o1 a k (a.go ρ) := op1_eq
@[simp] theorem tPV_eq {k : PV → Option Bool} {a : Opd} : tPV k a ρ = o1 a k (a.go ρ) := op1_eq
@[simp] theorem eP2_eq {k : PV → PV → Option PV} {a b : Opd} : eP2 k a b ρ = o2 a b k (a.go ρ) := op2_eq
@[simp] theorem tPV2_eq {k : PV → PV → Option Bool} {a b : Opd} : tPV2 k a b ρ = o2 a b k (a.go ρ) := op2_eq
/-! chains -/
section
variable {k l : PV → PV → Option Bool} {a b d : Opd} {t u x : Option PV}
def ch3 (b d : Opd) (l : PV → PV → Option Bool) (u : Option PV) : Res (Option PV) → Res Bool
  | .ok x ρ => .of ((b.get u ρ).bind fun w => (d.get x ρ).bind fun z => l w z) ρ
  | .er e ρ => .er e ρ
  | .bad => .bad
def ch2 (b d : Opd) (l : PV → PV → Option Bool) (u : Option PV) : Res Bool → Res Bool
  | .ok true ρ => ch3 b d l u (d.go ρ)
  | .ok false ρ => .ok false ρ
  | .er e ρ => .er e ρ
  | .bad => .bad
def ch1 (a b d : Opd) (k l : PV → PV → Option Bool) (t : Option PV) : Res (Option PV) → Res Bool
  | .ok u ρ => ch2 b d l u (.of ((a.get t ρ).bind fun v => (b.get u ρ).bind fun w => k v w) ρ)
  | .er e ρ => .er e ρ
  | .bad => .bad
def ch0 (a b d : Opd) (k l : PV → PV → Option Bool) : Res (Option PV) → Res Bool
  | .ok t ρ => ch1 a b d k l t (b.go ρ)
  | .er e ρ => .er e ρ
  | .bad => .bad
@[simp] theorem tCh_eq : tCh k l a b d ρ = ch0 a b d k l (a.go ρ) := by
  unfold tCh ch0
  cases a.go ρ with
  | ok t ρ1 =>
    simp only [Res.bind_ok]
    unfold ch1
    cases b.go ρ1 with
    | ok u ρ2 =>
      simp only [Res.bind_ok]
      unfold ch2
      cases q : (Res.of ((a.get t ρ2).bind fun v => (b.get u ρ2).bind fun w => k v w) ρ2 : Res Bool) with
      | ok r ρ3 =>
        cases r with
        | true => simp only [Res.bind_ok, if_true]; unfold ch3; cases d.go ρ3 <;> rfl
        | false => rfl
      | er => rfl
      | bad => rfl
    | er => rfl
    | bad => rfl
  | er => rfl
  | bad => rfl
@[simp] theorem ch0_ok : ch0 a b d k l (.ok t ρ) = ch1 a b d k l t (b.go ρ) := (rfl)
@[simp] theorem ch1_ok : ch1 a b d k l t (.ok u ρ) = ch2 b d l u (.of ((a.get t ρ).bind fun v => (b.get u ρ).bind fun w => k v w) ρ) := (rfl)
@[simp] theorem ch2_t : ch2 b d l u (.ok true ρ) = ch3 b d l u (d.go ρ) := (rfl)
@[simp] theorem ch2_f : ch2 b d l u (.ok false ρ) = .ok false ρ := (rfl)
theorem ch2_b {r : Bool} : ch2 b d l u (.ok r ρ) = if r = true then ch3 b d l u (d.go ρ) else .ok false ρ := by cases r <;> rfl
@[simp] theorem ch3_ok : ch3 b d l u (.ok x ρ) = .of ((b.get u ρ).bind fun w => (d.get x ρ).bind fun z => l w z) ρ := (rfl)
end
/-! expressions -/
@[simp] theorem eC_eq : eC v ρ = .ok v ρ := (rfl)
def nmS (i : Nat) (ρ : Env) : Option PV → Res PV
  | some v => .ok (frz v) (ρ.set i (some (frz v)))
  | none => .bad
def mvS (i : Nat) (ρ : Env) : Option PV → Res PV
  | some v => .ok v (ρ.set i none)
  | none => .bad
@[simp] theorem eNm_eq {i : Nat} : eNm i ρ = nmS i ρ (slot ρ i) := by unfold eNm nmS; cases slot ρ i <;> rfl
@[simp] theorem eMv_eq {i : Nat} : eMv i ρ = mvS i ρ (slot ρ i) := by unfold eMv mvS; cases slot ρ i <;> rfl
@[simp] theorem nmS_some {i : Nat} : nmS i ρ (some v) = .ok (frz v) (ρ.set i (some (frz v))) := (rfl)
@[simp] theorem mvS_some {i : Nat} : mvS i ρ (some v) = .ok v (ρ.set i none) := (rfl)
def ac2 (v : PV) : Res (List PV) → Res (List PV)
  | .ok vs ρ => .ok (v :: vs) ρ
  | .er e ρ => .er e ρ
  | .bad => .bad
def ac1 (g : AF) : Res PV → Res (List PV)
  | .ok v ρ => ac2 v (g ρ)
  | .er e ρ => .er e ρ
  | .bad => .bad
@[simp] theorem aNil_eq : aNil ρ = .ok [] ρ := (rfl)
@[simp] theorem aCons_eq {f : EF} {g : AF} : aCons f g ρ = ac1 g (f ρ) := by
  unfold aCons ac1
  cases f ρ with
  | ok v ρ1 => simp only [Res.bind_ok]; unfold ac2; cases g ρ1 <;> rfl
  | er => rfl
  | bad => rfl
@[simp] theorem ac1_ok {g : AF} : ac1 g (.ok v ρ) = ac2 v (g ρ) := (rfl)
@[simp] theorem ac2_ok {vs : List PV} : ac2 v (.ok vs ρ) = .ok (v :: vs) ρ := (rfl)
def mapR {α β : Type} (f : α → β) : Res α → Res β
  | .ok a ρ => .ok (f a) ρ
  | .er e ρ => .er e ρ
  | .bad => .bad
@[simp] theorem mapR_ok {α β : Type} {f : α → β} {a : α} : mapR f (.ok a ρ) = .ok (f a) ρ := (rfl)
@[simp] theorem eTup_eq {g : AF} : eTup g ρ = mapR PV.tup (g ρ) := by unfold eTup mapR; cases g ρ <;> rfl
@[simp] theorem eLst_eq {g : AF} : eLst g ρ = mapR (PV.lst true) (g ρ) := by unfold eLst mapR; cases g ρ <;> rfl
@[simp] theorem eT_eq {t : TF} : eT t ρ = mapR PV.bl (t ρ) := by unfold eT mapR; cases t ρ <;> rfl
@[simp] theorem tNot_eq {t : TF} : tNot t ρ = mapR (fun b => !b) (t ρ) := by unfold tNot mapR; cases t ρ <;> rfl
def unB : Res PV → Res Bool
  | .ok (.bl b) ρ => .ok b ρ
  | .ok _ _ => .bad
  | .er e ρ => .er e ρ
  | .bad => .bad
@[simp] theorem tE_eq {f : EF} : tE f ρ = unB (f ρ) := by
  unfold tE unB
  cases f ρ with
  | ok v ρ1 => cases v <;> rfl
  | er => rfl
  | bad => rfl
@[simp] theorem unB_ok {b : Bool} : unB (.ok (.bl b) ρ) = .ok b ρ := (rfl)
def andR (u : TF) : Res Bool → Res Bool
  | .ok b ρ => if b = true then u ρ else .ok false ρ
  | .er e ρ => .er e ρ
  | .bad => .bad
def orR (u : TF) : Res Bool → Res Bool
  | .ok b ρ => if b = true then .ok true ρ else u ρ
  | .er e ρ => .er e ρ
  | .bad => .bad
@[simp] theorem tAnd_eq {t u : TF} : tAnd t u ρ = andR u (t ρ) := by unfold tAnd andR; cases t ρ <;> rfl
@[simp] theorem tOr_eq {t u : TF} : tOr t u ρ = orR u (t ρ) := by unfold tOr orR; cases t ρ <;> rfl
@[simp] theorem andR_ok {u : TF} {b : Bool} : andR u (.ok b ρ) = if b = true then u ρ else .ok false ρ := (rfl)
@[simp] theorem orR_ok {u : TF} {b : Bool} : orR u (.ok b ρ) = if b = true then .ok true ρ else u ρ := (rfl)
def ifR {α : Type} (f g : Env → Res α) : Res Bool → Res α
  | .ok b ρ => if b = true then f ρ else g ρ
  | .er e ρ => .er e ρ
  | .bad => .bad
@[simp] theorem eIf_eq {t : TF} {f g : EF} : eIf t f g ρ = ifR f g (t ρ) := by unfold eIf ifR; cases t ρ <;> rfl
@[simp] theorem ifR_ok {α : Type} {f g : Env → Res α} {b : Bool} : ifR f g (.ok b ρ) = if b = true then f ρ else g ρ := (rfl)
def eaR (g : EF) : Res Bool → Res PV
  | .ok b ρ => if b = true then g ρ else .ok (.bl false) ρ
  | .er e ρ => .er e ρ
  | .bad => .bad
def eoR (g : EF) : Res Bool → Res PV
  | .ok b ρ => if b = true then .ok (.bl true) ρ else g ρ
  | .er e ρ => .er e ρ
  | .bad => .bad
@[simp] theorem eaR_ok {g : EF} {b : Bool} : eaR g (.ok b ρ) = if b = true then g ρ else .ok (.bl false) ρ := (rfl)
@[simp] theorem eoR_ok {g : EF} {b : Bool} : eoR g (.ok b ρ) = if b = true then .ok (.bl true) ρ else g ρ := (rfl)
/-! bounds -/
def bdR : Res PV → Res (Option Int)
  | .ok (.int i) ρ => .ok (some i) ρ
  | .ok _ _ => .bad
  | .er e ρ => .er e ρ
  | .bad => .bad
@[simp] theorem goB_none : goB none ρ = .ok none ρ := (rfl)
@[simp] theorem goB_some {f : EF} : goB (some f) ρ = bdR (f ρ) := by
  unfold goB bdR
  cases h : f ρ with
  | ok v ρ1 => simp only [h, Res.bind_ok]; cases v <;> rfl
  | er => simp only [h]; rfl
  | bad => simp only [h]; rfl
@[simp] theorem bdR_ok {i : Int} : bdR (.ok (.int i) ρ) = .ok (some i) ρ := (rfl)
def sl3 (a : Opd) (t : Option PV) (i : Option Int) : Res (Option Int) → Res PV
  | .ok j ρ => .of ((a.get t ρ).bind fun v => sl v i j) ρ
  | .er e ρ => .er e ρ
  | .bad => .bad
def sl2 (a : Opd) (hi : Option EF) (t : Option PV) : Res (Option Int) → Res PV
  | .ok i ρ => sl3 a t i (goB hi ρ)
  | .er e ρ => .er e ρ
  | .bad => .bad
def sl1 (a : Opd) (lo hi : Option EF) : Res (Option PV) → Res PV
  | .ok t ρ => sl2 a hi t (goB lo ρ)
  | .er e ρ => .er e ρ
  | .bad => .bad
@[simp] theorem eSl_eq {a : Opd} {lo hi : Option EF} : eSl a lo hi ρ = sl1 a lo hi (a.go ρ) := by
  unfold eSl sl1
  cases a.go ρ with
  | ok t ρ1 =>
    simp only [Res.bind_ok]; unfold sl2
    cases goB lo ρ1 with
    | ok i ρ2 => simp only [Res.bind_ok]; unfold sl3; cases goB hi ρ2 <;> rfl
    | er => rfl
    | bad => rfl
  | er => rfl
  | bad => rfl
@[simp] theorem sl1_ok {a : Opd} {lo hi : Option EF} {t : Option PV} : sl1 a lo hi (.ok t ρ) = sl2 a hi t (goB lo ρ) := (rfl)
@[simp] theorem sl2_ok {a : Opd} {hi : Option EF} {t : Option PV} {i : Option Int} : sl2 a hi t (.ok i ρ) = sl3 a t i (goB hi ρ) := (rfl)
@[simp] theorem sl3_ok {a : Opd} {t : Option PV} {i j : Option Int} : sl3 a t i (.ok j ρ) = .of ((a.get t ρ).bind fun v => sl v i j) ρ := (rfl)
/-! calls -/
def cl2 (sem : FF) (os : List Opd) (ds : List PV) : Option (List PV × Env) → Res PV
  | some (vs, ρ) => back (sem (vs ++ ds)) .ok fun ws => giveAll os vs ws ρ
  | none => .bad
def cl1 (sem : FF) (os : List Opd) (ds : List PV) : Res (List (Option PV)) → Res PV
  | .ok ts ρ => cl2 sem os ds (takeAll os ts ρ)
  | .er e ρ => .er e ρ
  | .bad => .bad
@[simp] theorem eCall_eq {sem : FF} {os : List Opd} {ds : List PV} : eCall sem os ds ρ = cl1 sem os ds (goAll os ρ) := by
  unfold eCall cl1
  cases goAll os ρ with
  | ok ts ρ1 => simp only [Res.bind_ok]; unfold cl2; cases h : takeAll os ts ρ1 <;> rfl
  | er => rfl
  | bad => rfl
@[simp] theorem cl1_ok {sem : FF} {os : List Opd} {ds : List PV} {ts : List (Option PV)} : cl1 sem os ds (.ok ts ρ) = cl2 sem os ds (takeAll os ts ρ) := (rfl)
@[simp] theorem cl2_some {sem : FF} {os : List Opd} {ds vs : List PV} : cl2 sem os ds (some (vs, ρ)) = back (sem (vs ++ ds)) .ok fun ws => giveAll os vs ws ρ := (rfl)
def ga2 (t : Option PV) : Res (List (Option PV)) → Res (List (Option PV))
  | .ok ts ρ => .ok (t :: ts) ρ
  | .er e ρ => .er e ρ
  | .bad => .bad
def ga1 (os : List Opd) : Res (Option PV) → Res (List (Option PV))
  | .ok t ρ => ga2 t (goAll os ρ)
  | .er e ρ => .er e ρ
  | .bad => .bad
@[simp] theorem goAll_nil : goAll [] ρ = .ok [] ρ := (rfl)
@[simp] theorem goAll_cons {o : Opd} {os : List Opd} : goAll (o :: os) ρ = ga1 os (o.go ρ) := by
  show (o.go ρ).bind _ = _
  unfold ga1
  cases o.go ρ with
  | ok t ρ1 => simp only [Res.bind_ok]; unfold ga2; cases goAll os ρ1 <;> rfl
  | er => rfl
  | bad => rfl
@[simp] theorem ga1_ok {os : List Opd} {t : Option PV} : ga1 os (.ok t ρ) = ga2 t (goAll os ρ) := (rfl)
@[simp] theorem ga2_ok {t : Option PV} {ts : List (Option PV)} : ga2 t (.ok ts ρ) = .ok (t :: ts) ρ := (rfl)
def tk3 (v : PV) : Option (List PV × Env) → Option (List PV × Env)
  | some (vs, ρ) => some (v :: vs, ρ)
  | none => none
def tk2 (os : List Opd) (ts : List (Option PV)) : Option (PV × Env) → Option (List PV × Env)
  | some (v, ρ) => tk3 v (takeAll os ts ρ)
  | none => none
@[simp] theorem takeAll_nil : takeAll [] [] ρ = some ([], ρ) := (rfl)
@[simp] theorem takeAll_cons {o : Opd} {os : List Opd} {t : Option PV} {ts : List (Option PV)} : takeAll (o :: os) (t :: ts) ρ = tk2 os ts (take1 o t ρ) := by
  rw [takeAll]
  unfold tk2
  cases take1 o t ρ with
  | none => rfl
  | some z => obtain ⟨v, ρ1⟩ := z; simp only; unfold tk3; cases takeAll os ts ρ1 <;> rfl
@[simp] theorem tk2_some {os : List Opd} {ts : List (Option PV)} : tk2 os ts (some (v, ρ)) = tk3 v (takeAll os ts ρ) := (rfl)
@[simp] theorem tk3_some {vs : List PV} : tk3 v (some (vs, ρ)) = some (v :: vs, ρ) := (rfl)
def t1N (i : Nat) (ρ : Env) : Option PV → Option (PV × Env)
  | some v => if fro v = true then some (v, ρ) else some (v, ρ.set i none)
  | none => none
@[simp] theorem take1_nm {i : Nat} {t : Option PV} : take1 (.nm i) t ρ = t1N i ρ (slot ρ i) := by
  show (match slot ρ i with | some v => if fro v = true then some (v, ρ) else some (v, ρ.set i none) | none => none) = _
  cases slot ρ i <;> rfl
@[simp] theorem t1N_some {i : Nat} : t1N i ρ (some v) = if fro v = true then some (v, ρ) else some (v, ρ.set i none) := (rfl)
@[simp] theorem take1_ev {f : EF} : take1 (.ev f) (some v) ρ = some (v, ρ) := (rfl)
@[simp] theorem giveAll_nil {vs ws : List PV} : giveAll [] vs ws ρ = ρ := by cases vs <;> cases ws <;> rfl
@[simp] theorem giveAll_cons {o : Opd} {os : List Opd} {v w : PV} {vs ws : List PV} : giveAll (o :: os) (v :: vs) (w :: ws) ρ = give1 o v w (giveAll os vs ws ρ) := (rfl)
@[simp] theorem give1_nm {i : Nat} : give1 (.nm i) v w ρ = if fro v = true then ρ else ρ.set i (some w) := (rfl)
@[simp] theorem give1_ev {f : EF} : give1 (.ev f) v w ρ = ρ := (rfl)
section
variable {α : Type} {k : PV → Env → Res α} {g : List PV → Env} {as : List PV}
@[simp] theorem back_ok : back (.ok v as) k g = k v (g as) := (rfl)
@[simp] theorem back_er : back (.er e as) k g = .er e (g as) := (rfl)
@[simp] theorem back_bad : back .bad k g = .bad := (rfl)
end
/-! statements -/
def andThen (u : SF) : SR → SR
  | .nx ρ => u ρ
  | .rt v ρ => .rt v ρ
  | .bk ρ => .bk ρ
  | .ct ρ => .ct ρ
  | .er e ρ => .er e ρ
  | .bad => .bad
@[simp] theorem sSeq_eq {s u : SF} : sSeq s u ρ = andThen u (s ρ) := by unfold sSeq andThen; cases s ρ <;> rfl
section
variable {u : SF}
@[simp] theorem at_nx : andThen u (.nx ρ) = u ρ := (rfl)
@[simp] theorem at_rt : andThen u (.rt v ρ) = .rt v ρ := (rfl)
@[simp] theorem at_bk : andThen u (.bk ρ) = .bk ρ := (rfl)
@[simp] theorem at_ct : andThen u (.ct ρ) = .ct ρ := (rfl)
@[simp] theorem at_er : andThen u (.er e ρ) = .er e ρ := (rfl)
end
@[simp] theorem sNx_eq : sNx ρ = .nx ρ := (rfl)
@[simp] theorem sBk_eq : sBk ρ = .bk ρ := (rfl)
@[simp] theorem sCt_eq : sCt ρ = .ct ρ := (rfl)
@[simp] theorem sRetN_eq : sRetN ρ = .rt .non ρ := (rfl)
def doR : Res PV → SR
  | .ok _ ρ => .nx ρ
  | .er e ρ => .er e ρ
  | .bad => .bad
def retR : Res PV → SR
  | .ok v ρ => .rt v ρ
  | .er e ρ => .er e ρ
  | .bad => .bad
def setR (i : Nat) : Res PV → SR
  | .ok v ρ => .nx (ρ.set i (some v))
  | .er e ρ => .er e ρ
  | .bad => .bad
def siR (a b : SF) : Res Bool → SR
  | .ok c ρ => if c = true then a ρ else b ρ
  | .er e ρ => .er e ρ
  | .bad => .bad
@[simp] theorem sDo_eq {f : EF} : sDo f ρ = doR (f ρ) := by unfold sDo doR; cases f ρ <;> rfl
@[simp] theorem sRet_eq {f : EF} : sRet f ρ = retR (f ρ) := by unfold sRet retR; cases f ρ <;> rfl
@[simp] theorem sSet_eq {i : Nat} {f : EF} : sSet i f ρ = setR i (f ρ) := by unfold sSet setR; cases f ρ <;> rfl
@[simp] theorem sIf_eq {t : TF} {a b : SF} : sIf t a b ρ = siR a b (t ρ) := by unfold sIf siR; cases t ρ <;> rfl
@[simp] theorem doR_ok : doR (.ok v ρ) = .nx ρ := (rfl)
@[simp] theorem retR_ok : retR (.ok v ρ) = .rt v ρ := (rfl)
@[simp] theorem setR_ok {i : Nat} : setR i (.ok v ρ) = .nx (ρ.set i (some v)) := (rfl)
@[simp] theorem siR_ok {a b : SF} {c : Bool} : siR a b (.ok c ρ) = if c = true then a ρ else b ρ := (rfl)
def appS (i : Nat) (v : PV) (ρ : Env) : Option PV → SR
  | some (.lst true xs) => if xs.length < big then .nx (ρ.set i (some (.lst true (xs ++ [v])))) else .bad
  | _ => .bad
def appR (i : Nat) : Res PV → SR
  | .ok v ρ => appS i v ρ (slot ρ i)
  | .er e ρ => .er e ρ
  | .bad => .bad
def isL : Option PV → Bool
  | some (.lst _ _) => true
  | _ => false
theorem sApp_eq0 {i : Nat} {f : EF} (h : isL (slot ρ i) = true) : sApp i f ρ = appR i (f ρ) := by
  unfold sApp
  generalize slot ρ i = o at h
  match o, h with
  | some (.lst w xs), _ =>
    show sOf (f ρ) _ = _
    unfold appR
    cases f ρ with
    | er => rfl
    | bad => rfl
    | ok v ρ1 =>
      show (match slot ρ1 i with | some (.lst true xs) => if xs.length < big then SR.nx (ρ1.set i (some (.lst true (xs ++ [v])))) else .bad | _ => .bad) = appS i v ρ1 (slot ρ1 i)
      generalize slot ρ1 i = o
      cases o with
      | none => rfl
      | some u =>
        cases u with
        | lst w ys => cases w <;> rfl
        | _ => rfl
@[simp] theorem sApp_eq {i : Nat} {f : EF} (h : isL (slot ρ i) = true) : sApp i f ρ = appR i (f ρ) := sApp_eq0 h
@[simp] theorem isL_lst {w : Bool} {xs : List PV} : isL (some (.lst w xs)) = true := (rfl)
@[simp] theorem appR_ok {i : Nat} : appR i (.ok v ρ) = appS i v ρ (slot ρ i) := (rfl)
@[simp] theorem appS_l {i : Nat} {xs : List PV} : appS i v ρ (some (.lst true xs)) = if xs.length < big then .nx (ρ.set i (some (.lst true (xs ++ [v])))) else .bad := (rfl)
def extS (i : Nat) (ρ : Env) : Option PV → PV → SR
  | some (.lst true xs), .lst true ys => if xs.length + ys.length ≤ big then .nx (ρ.set i (some (.lst true (xs ++ ys)))) else .bad
  | _, _ => .bad
def extR (i : Nat) : Res PV → SR
  | .ok v ρ => extS i ρ (slot ρ i) v
  | .er e ρ => .er e ρ
  | .bad => .bad
@[simp] theorem sExt_eq {i : Nat} {f : EF} (h : isL (slot ρ i) = true) : sExt i f ρ = extR i (f ρ) := by
  unfold sExt
  generalize slot ρ i = o at h
  match o, h with
  | some (.lst w xs), _ =>
    show sOf (f ρ) _ = _
    unfold extR
    cases f ρ with
    | er => rfl
    | bad => rfl
    | ok v ρ1 =>
      show (match slot ρ1 i, v with | some (.lst true xs), .lst true ys => if xs.length + ys.length ≤ big then SR.nx (ρ1.set i (some (.lst true (xs ++ ys)))) else .bad | _, _ => .bad) = extS i ρ1 (slot ρ1 i) v
      generalize slot ρ1 i = o
      cases o with
      | none => rfl
      | some u =>
        cases u with
        | lst w ys =>
          cases w with
          | false => rfl
          | true =>
            cases v with
            | lst w2 zs => cases w2 <;> rfl
            | _ => rfl
        | _ => rfl
@[simp] theorem extR_ok {i : Nat} : extR i (.ok v ρ) = extS i ρ (slot ρ i) v := (rfl)
@[simp] theorem extS_l {i : Nat} {xs ys : List PV} : extS i ρ (some (.lst true xs)) (.lst true ys) = if xs.length + ys.length ≤ big then .nx (ρ.set i (some (.lst true (xs ++ ys)))) else .bad := (rfl)
def pl4 (i : Nat) (v : PV) (ρ : Env) : Option PV → PV → SR
  | some (.lst true xs), .int k => match ixN xs.length k with
    | some j => .nx (ρ.set i (some (.lst true (xs.set j v))))
    | none => .bad
  | _, _ => .bad
def pl3 (i : Nat) (v : PV) : Res PV → SR
  | .ok k ρ => pl4 i v ρ (slot ρ i) k
  | .er e ρ => .er e ρ
  | .bad => .bad
def pl2 (i : Nat) (g : EF) (v : PV) (ρ : Env) : Option PV → SR
  | some _ => pl3 i v (g ρ)
  | none => .bad
def pl1 (i : Nat) (g : EF) : Res PV → SR
  | .ok v ρ => pl2 i g v ρ (slot ρ i)
  | .er e ρ => .er e ρ
  | .bad => .bad
@[simp] theorem sPutL_eq {i : Nat} {g f : EF} : sPutL i g f ρ = pl1 i g (f ρ) := by
  unfold sPutL pl1
  cases f ρ with
  | ok v ρ1 =>
    simp only [sOf_ok]
    unfold pl2
    cases slot ρ1 i with
    | none => rfl
    | some x =>
      simp only
      unfold pl3
      cases g ρ1 with
      | ok k ρ2 =>
        simp only [sOf_ok]
        unfold pl4
        generalize slot ρ2 i = o
        cases o with
        | none => rfl
        | some u =>
          cases u with
          | lst w ys =>
            cases w with
            | false => rfl
            | true => cases k <;> rfl
          | _ => rfl
      | er => rfl
      | bad => rfl
  | er => rfl
  | bad => rfl
@[simp] theorem pl1_ok {i : Nat} {g : EF} : pl1 i g (.ok v ρ) = pl2 i g v ρ (slot ρ i) := (rfl)
@[simp] theorem pl2_some {i : Nat} {g : EF} : pl2 i g v ρ (some w) = pl3 i v (g ρ) := (rfl)
@[simp] theorem pl3_ok {i : Nat} : pl3 i v (.ok w ρ) = pl4 i v ρ (slot ρ i) w := (rfl)
@[simp] theorem pl4_l {i : Nat} {xs : List PV} {k : Int} : pl4 i v ρ (some (.lst true xs)) (.int k) = match ixN xs.length k with
    | some j => .nx (ρ.set i (some (.lst true (xs.set j v))))
    | none => .bad := (rfl)
def p2R (i j : Nat) : Res (List PV) → SR
  | .ok [v, w] ρ => .nx ((ρ.set i (some v)).set j (some w))
  | .ok _ _ => .bad
  | .er e ρ => .er e ρ
  | .bad => .bad
@[simp] theorem sPar2_eq {i j : Nat} {g : AF} : sPar2 i j g ρ = p2R i j (g ρ) := by
  unfold sPar2 p2R
  cases g ρ with
  | ok vs ρ1 => simp only [sOf_ok]; split <;> simp_all
  | er => rfl
  | bad => rfl
@[simp] theorem p2R_ok {i j : Nat} : p2R i j (.ok [v, w] ρ) = .nx ((ρ.set i (some v)).set j (some w)) := (rfl)
def p3R (i j k : Nat) : Res (List PV) → SR
  | .ok [v, w, z] ρ => .nx (((ρ.set i (some v)).set j (some w)).set k (some z))
  | .ok _ _ => .bad
  | .er e ρ => .er e ρ
  | .bad => .bad
@[simp] theorem sPar3_eq {i j k : Nat} {g : AF} : sPar3 i j k g ρ = p3R i j k (g ρ) := by
  unfold sPar3 p3R
  cases g ρ with
  | ok vs ρ1 => simp only [sOf_ok]; split <;> simp_all
  | er => rfl
  | bad => rfl
@[simp] theorem p3R_ok {i j k : Nat} {z : PV} : p3R i j k (.ok [v, w, z] ρ) = .nx (((ρ.set i (some v)).set j (some w)).set k (some z)) := (rfl)
def stR (b : BF) : Res PV → SR
  | .ok v ρ => match b v ρ with
    | some ρ2 => .nx ρ2
    | none => .bad
  | .er e ρ => .er e ρ
  | .bad => .bad
@[simp] theorem sSetT_eq {b : BF} {f : EF} : sSetT b f ρ = stR b (f ρ) := by unfold sSetT stR; cases f ρ <;> rfl
@[simp] theorem stR_ok {b : BF} : stR b (.ok v ρ) = match b v ρ with
    | some ρ2 => .nx ρ2
    | none => .bad := (rfl)
@[simp] theorem bN_eq {i : Nat} : bN i v ρ = some (ρ.set i (some v)) := (rfl)
@[simp] theorem bT_eq {bs : List BF} {xs : List PV} : bT bs (.tup xs) ρ = bAll bs xs ρ := (rfl)
@[simp] theorem bAll_nil : bAll [] [] ρ = some ρ := (rfl)
@[simp] theorem bAll_cons {b : BF} {bs : List BF} {vs : List PV} : bAll (b :: bs) (v :: vs) ρ = (b v ρ).bind (bAll bs vs) := by
  rw [bAll]; cases b v ρ <;> rfl
/-! a def -/
def mkR (fx : List Bool) (as : List PV) : SR → FR
  | .nx ρ => fin fx as .non ρ
  | .rt v ρ => fin fx as v ρ
  | .er e ρ => finE fx as e ρ
  | _ => .bad
theorem mk_eq {fx : List Bool} {n : Nat} {s : SF} {as : List PV} (h : as.length = fx.length) : mk fx n s as = mkR fx as (s (as.map some ++ List.replicate (n - fx.length) none)) := by
  unfold mk
  refine (if_pos h).trans ?_
  generalize s (as.map some ++ List.replicate (n - fx.length) none) = r
  cases r <;> rfl
section
variable {fx : List Bool} {as : List PV}
@[simp] theorem mkR_nx : mkR fx as (.nx ρ) = fin fx as .non ρ := (rfl)
@[simp] theorem mkR_rt : mkR fx as (.rt v ρ) = fin fx as v ρ := (rfl)
@[simp] theorem mkR_er : mkR fx as (.er e ρ) = finE fx as e ρ := (rfl)
end
/-! operators on ints -/
section
variable {i j : Int} {x y : Str} {xs ys : List PV} {b c : Bool}
@[simp] theorem add_ii : bAdd (.int i) (.int j) = some (.int (i + j)) := (rfl)
@[simp] theorem sub_ii : bSub (.int i) (.int j) = some (.int (i - j)) := (rfl)
theorem mul_ii (h : mulOk i j = true) : bMul (.int i) (.int j) = some (.int (i * j)) := by
  show (if mulOk i j = true then _ else _) = _
  rw [if_pos h]
theorem div_ii (h : divOk j = true) : bDiv (.int i) (.int j) = some (.int (i / j)) := by
  show (if divOk j = true then _ else _) = _
  rw [if_pos h]
theorem mod_ii (h : 0 < j) : bMod (.int i) (.int j) = some (.int (i % j)) := by
  show (if decide (0 < j) = true then _ else _) = _
  rw [if_pos (by simpa using h)]
theorem pow_ii (h : powOk i j = true) : bPow (.int i) (.int j) = some (.int (i ^ j.toNat)) := by
  show (if powOk i j = true then _ else _) = _
  rw [if_pos h]
@[simp] theorem neg_i : uNeg (.int i) = some (.int (-i)) := (rfl)
@[simp] theorem lt_ii : cLt (.int i) (.int j) = some (decide (i < j)) := (rfl)
@[simp] theorem le_ii : cLe (.int i) (.int j) = some (decide (i ≤ j)) := (rfl)
@[simp] theorem gt_ii : cGt (.int i) (.int j) = some (decide (j < i)) := (rfl)
@[simp] theorem ge_ii : cGe (.int i) (.int j) = some (decide (j ≤ i)) := (rfl)
@[simp] theorem int_i : fInt (.int i) = some (.int i) := (rfl)
@[simp] theorem int_b : fInt (.bl b) = some (.int (b2i b)) := (rfl)
@[simp] theorem abs_i : fAbs (.int i) = some (.int (if i < 0 then -i else i)) := (rfl)
@[simp] theorem max_ii : fMax2 (.int i) (.int j) = some (.int (if j > i then j else i)) := (rfl)
@[simp] theorem min_ii : fMin2 (.int i) (.int j) = some (.int (if j < i then j else i)) := (rfl)
theorem eq_ii : cEq (.int i) (.int j) = some (decide (i = j)) := by
  simp [cEq, dat, eqv]; rw [Bool.eq_iff_iff]; simp
theorem ne_ii : cNe (.int i) (.int j) = some (!decide (i = j)) := by
  simp [cNe, dat, eqv]; rw [Bool.eq_iff_iff]; simp
theorem eq_ss : cEq (.str x) (.str y) = some (decide (x = y)) := by
  simp [cEq, dat, eqv]; rw [Bool.eq_iff_iff]; simp
theorem ne_ss : cNe (.str x) (.str y) = some (!decide (x = y)) := by
  simp [cNe, dat, eqv]; rw [Bool.eq_iff_iff]; simp
@[simp] theorem isN_non : cIsN .non = some true := (rfl)
@[simp] theorem isN_int : cIsN (.int i) = some false := (rfl)
@[simp] theorem noN_non : cNotN .non = some false := (rfl)
@[simp] theorem noN_int : cNotN (.int i) = some true := (rfl)
@[simp] theorem len_lst {w : Bool} : fLen (.lst w xs) = some (.int xs.length) := (rfl)
@[simp] theorem len_tup : fLen (.tup xs) = some (.int xs.length) := (rfl)
@[simp] theorem len_str : fLen (.str x) = some (.int x.length) := (rfl)
end
/-! frozen trees -/
@[simp] theorem fro_int {i : Int} : fro (.int i) = true := (rfl)
@[simp] theorem fro_str {x : Str} : fro (.str x) = true := (rfl)
@[simp] theorem fro_non : fro .non = true := (rfl)
@[simp] theorem fro_bl {b : Bool} : fro (.bl b) = true := (rfl)
@[simp] theorem fro_tup {xs : List PV} : fro (.tup xs) = fros xs := by rw [fro]
@[simp] theorem fro_lt {xs : List PV} : fro (.lst true xs) = false := by rw [fro]; rfl
@[simp] theorem fro_lf {xs : List PV} : fro (.lst false xs) = fros xs := by rw [fro]; rfl
@[simp] theorem fros_nil : fros [] = true := (rfl)
@[simp] theorem fros_cons {x : PV} {xs : List PV} : fros (x :: xs) = (fro x && fros xs) := by rw [fros]
@[simp] theorem frz_int {i : Int} : frz (.int i) = .int i := (rfl)
@[simp] theorem frz_str {x : Str} : frz (.str x) = .str x := (rfl)
@[simp] theorem frz_non : frz .non = .non := (rfl)
@[simp] theorem frz_bl {b : Bool} : frz (.bl b) = .bl b := (rfl)
/-! places -/
@[simp] theorem ix_l {w : Bool} {xs : List PV} {i : Int} : ix (.lst w xs) (.int i) = (atI xs i).bind onlyFro := (rfl)
@[simp] theorem ix_t {xs : List PV} {i : Int} : ix (.tup xs) (.int i) = (atI xs i).bind onlyFro := (rfl)
@[simp] theorem at0 {α : Type} {x : α} {xs : List α} : atI (x :: xs) 0 = some x := by simp [atI, ixN]
@[simp] theorem at1 {α : Type} {x y : α} {xs : List α} : atI (x :: y :: xs) 1 = some y := by
  have : (1 : Int) < xs.length + 1 + 1 := by omega
  simp [atI, ixN, this]
@[simp] theorem at2 {α : Type} {x y z : α} {xs : List α} : atI (x :: y :: z :: xs) 2 = some z := by
  have : (2 : Int) < xs.length + 1 + 1 + 1 := by omega
  simp [atI, ixN, this]
@[simp] theorem ix0 {n : Nat} : ixN (n + 1) 0 = some 0 := by simp [ixN]
@[simp] theorem ix1 {n : Nat} : ixN (n + 2) 1 = some 1 := by
  have : (1 : Int) < n + 2 := by omega
  simp [ixN, this]
@[simp] theorem ix2 {n : Nat} : ixN (n + 3) 2 = some 2 := by
  have : (2 : Int) < n + 3 := by omega
  simp [ixN, this]
theorem onlyFro_t {v : PV} (h : fro v = true) : onlyFro v = some v := by unfold onlyFro; rw [if_pos h]
@[simp] theorem of_int {i : Int} : onlyFro (.int i) = some (.int i) := (rfl)
@[simp] theorem of_str {x : Str} : onlyFro (.str x) = some (.str x) := (rfl)
@[simp] theorem of_non : onlyFro .non = some .non := (rfl)
/-! the end of a def -/
@[simp] theorem outs_nil : outs [] [] ρ = some [] := by cases ρ <;> rfl
@[simp] theorem outs_t {fx : List Bool} {a v : PV} {as : List PV} : outs (true :: fx) (a :: as) (some v :: ρ) = (outs fx as ρ).map (v :: ·) := (rfl)
@[simp] theorem outs_f {fx : List Bool} {a : PV} {as : List PV} {o : Option PV} : outs (false :: fx) (a :: as) (o :: ρ) = if fro a = true then (outs fx as ρ).map (a :: ·) else none := by cases o <;> rfl
def finR (v : PV) : Option (List PV) → FR
  | some as => .ok v as
  | none => .bad
@[simp] theorem fin_eq {fx : List Bool} {as : List PV} : fin fx as v ρ = finR v (outs fx as ρ) := by unfold fin finR; cases outs fx as ρ <;> rfl
@[simp] theorem finR_some {as : List PV} : finR v (some as) = .ok v as := (rfl)
/-! loops by their invariants -/
theorem loop_ok {b : BF} {s : SF} (P : Nat → Env → Prop) : ∀ {xs : List PV} {ρ : Env} {k : Nat}, P k ρ →
    (∀ i x ρ, xs[i]? = some x → P (k + i) ρ → ∃ ρ1, b x ρ = some ρ1 ∧ ((∃ ρ2, s ρ1 = .nx ρ2 ∧ P (k + i + 1) ρ2) ∨ (∃ ρ2, s ρ1 = .ct ρ2 ∧ P (k + i + 1) ρ2))) → ∃ ρ', loop b s xs ρ = .nx ρ' ∧ P (k + xs.length) ρ'
  | [], ρ, k, h, _ => ⟨ρ, rfl, h⟩
  | x :: xs, ρ, k, h, st => by
    obtain ⟨ρ1, e1, h1⟩ := st 0 x ρ rfl h
    have go : ∀ ρ2, P (k + 1) ρ2 → ∃ ρ', loop b s xs ρ2 = .nx ρ' ∧ P (k + (x :: xs).length) ρ' := fun ρ2 h2 => by
      obtain ⟨ρ', e, h'⟩ := loop_ok P (k := k + 1) h2 fun i y ρ hy hp => by
        have := st (i + 1) y ρ hy (by rw [show k + (i + 1) = k + 1 + i by omega]; exact hp)
        rw [show k + (i + 1) + 1 = k + 1 + i + 1 by omega] at this
        exact this
      exact ⟨ρ', e, by rw [List.length_cons, show k + (xs.length + 1) = k + 1 + xs.length by omega]; exact h'⟩
    rcases h1 with ⟨ρ2, e2, h2⟩ | ⟨ρ2, e2, h2⟩
    · obtain ⟨ρ', e, h'⟩ := go ρ2 h2
      exact ⟨ρ', by rw [loop]; simp only [e1, e2]; exact e, h'⟩
    · obtain ⟨ρ', e, h'⟩ := go ρ2 h2
      exact ⟨ρ', by rw [loop]; simp only [e1, e2]; exact e, h'⟩
theorem loop_run {b : BF} {s : SF} {xs : List PV} {ρ : Env} (P : Nat → Env → Prop) (h0 : P 0 ρ)
    (st : ∀ i x ρ, xs[i]? = some x → P i ρ → ∃ ρ1, b x ρ = some ρ1 ∧ ((∃ ρ2, s ρ1 = .nx ρ2 ∧ P (i + 1) ρ2) ∨ (∃ ρ2, s ρ1 = .ct ρ2 ∧ P (i + 1) ρ2))) : ∃ ρ', loop b s xs ρ = .nx ρ' ∧ P xs.length ρ' := by
  obtain ⟨ρ', e, h⟩ := loop_ok P (k := 0) h0 fun i x ρ hx hp => by
    have := st i x ρ hx (by rwa [Nat.zero_add] at hp)
    rwa [Nat.zero_add]
  exact ⟨ρ', e, by rwa [Nat.zero_add] at h⟩
/-- a comprehension without a test -/
theorem comp_ok {own : List Nat} {b : BF} {f : EF} (P : Nat → Env → List PV → Prop) : ∀ {xs : List PV} {ρ : Env} {k : Nat} {ws : List PV}, P k ρ ws →
    (∀ i x ρ ws, xs[i]? = some x → P (k + i) ρ ws → ∃ ρ1 v ρ2, b x ρ = some ρ1 ∧ f ρ1 = .ok v ρ2 ∧ P (k + i + 1) (wipeE own ρ2) (ws ++ [v])) → ∃ vs ρ', compL own b tYes f xs ρ = .ok vs ρ' ∧ P (k + xs.length) ρ' (ws ++ vs)
  | [], ρ, k, ws, h, _ => ⟨[], ρ, rfl, by rw [List.append_nil]; exact h⟩
  | x :: xs, ρ, k, ws, h, st => by
    obtain ⟨ρ1, v, ρ2, e1, e2, h2⟩ := st 0 x ρ ws rfl h
    obtain ⟨vs, ρ', e, h'⟩ := comp_ok P (xs := xs) (k := k + 1) h2 fun i y ρ ws hy hp => by
      have := st (i + 1) y ρ ws hy (by rw [show k + (i + 1) = k + 1 + i by omega]; exact hp)
      rw [show k + (i + 1) + 1 = k + 1 + i + 1 by omega] at this
      exact this
    refine ⟨v :: vs, ρ', ?_, ?_⟩
    · rw [compL]
      simp only [e1, tYes, Res.bindB_ok, if_true, e2, e]
    · rw [List.length_cons, show k + (xs.length + 1) = k + 1 + xs.length by omega]
      rw [List.append_assoc] at h'
      exact h'
theorem comp_run {own : List Nat} {b : BF} {f : EF} {xs : List PV} {ρ : Env} (P : Nat → Env → List PV → Prop) (h0 : P 0 ρ [])
    (st : ∀ i x ρ ws, xs[i]? = some x → P i ρ ws → ∃ ρ1 v ρ2, b x ρ = some ρ1 ∧ f ρ1 = .ok v ρ2 ∧ P (i + 1) (wipeE own ρ2) (ws ++ [v])) : ∃ vs ρ', compL own b tYes f xs ρ = .ok vs ρ' ∧ P xs.length ρ' vs := by
  obtain ⟨vs, ρ', e, h⟩ := comp_ok P (k := 0) (ws := []) h0 fun i x ρ ws hx hp => by
    have := st i x ρ ws hx (by rwa [Nat.zero_add] at hp)
    rwa [Nat.zero_add]
  exact ⟨vs, ρ', e, by rwa [Nat.zero_add, List.nil_append] at h⟩
/-- a comprehension that writes nothing -/
theorem comp_pure {α : Type} {own : List Nat} {b : BF} {t : TF} {f : EF} {ρ : Env} (enc : α → PV) (p : α → Bool) (g : α → PV) : ∀ {l : List α},
    (∀ x ∈ l, ∃ ρ1 ρ2, b (enc x) ρ = some ρ1 ∧ t ρ1 = .ok (p x) ρ2 ∧ (p x = false → wipeE own ρ2 = ρ) ∧ (p x = true → ∃ ρ3, f ρ2 = .ok (g x) ρ3 ∧ wipeE own ρ3 = ρ)) → compL own b t f (l.map enc) ρ = .ok ((l.filter p).map g) ρ
  | [], _ => rfl
  | x :: l, h => by
    have ih := comp_pure enc p g (l := l) fun y hy => h y (List.mem_cons_of_mem _ hy)
    obtain ⟨ρ1, ρ2, e1, e2, h0, h1⟩ := h x List.mem_cons_self
    rw [List.map_cons, compL]
    simp only [e1, e2, Res.bindB_ok]
    cases q : p x with
    | false =>
      rw [if_neg Bool.false_ne_true, h0 q, ih, List.filter_cons, if_neg (by rw [q]; exact Bool.false_ne_true)]
    | true =>
      obtain ⟨ρ3, e3, e4⟩ := h1 q
      rw [if_pos rfl, e3, Res.bindB_ok, e4, ih, Res.bindB_ok, List.filter_cons, if_pos q, List.map_cons]
theorem eComp_run {own : List Nat} {w : IF} {b : BF} {t : TF} {f : EF} {ρ ρ1 ρ2 : Env} {xs vs : List PV} (hw : w ρ = .ok xs ρ1) (h : compL own b t f xs (wipeE own ρ1) = .ok vs ρ2) : eComp own w b t f ρ = .ok (.lst true vs) (restore own ρ1 ρ2) := by
  unfold eComp; rw [hw, Res.bind_ok, h, Res.bindB_ok]
theorem eCompN_fro {own : List Nat} {i : Nat} {b : BF} {t : TF} {f : EF} {ρ ρ2 : Env} {v : PV} {xs vs : List PV} (hs : slot ρ i = some v) (hi : items v = some xs) (hf : fro v = true) (hx : fros xs = true) (h : compL own b t f xs (wipeE own ρ) = .ok vs ρ2) : eCompN own i b t f ρ = .ok (.lst true vs) (restore own ρ ρ2) := by
  unfold eCompN; simp only [hs, hi]; rw [if_pos hx, if_pos hf, h, Res.bindB_ok]
theorem eCompN_own {own : List Nat} {i : Nat} {b : BF} {t : TF} {f : EF} {ρ ρ2 : Env} {v : PV} {xs vs : List PV} (hs : slot ρ i = some v) (hi : items v = some xs) (hf : fro v = false) (hx : fros xs = true) (h : compL own b t f xs (wipeE own (ρ.set i none)) = .ok vs ρ2) : eCompN own i b t f ρ = .ok (.lst true vs) ((restore own ρ ρ2).set i (some v)) := by
  unfold eCompN; simp only [hs, hi]; rw [if_pos hx, if_neg (by rw [hf]; exact Bool.false_ne_true), h, Res.bindB_ok]
theorem sForN_run {i : Nat} {b : BF} {s : SF} {ρ ρ' : Env} {v : PV} {xs : List PV} (hs : slot ρ i = some v) (hi : items v = some xs) (hx : fros xs = true) (h : loop b s xs (ρ.set i none) = .nx ρ') : sForN i b s ρ = .nx (ρ'.set i (some v)) := by
  unfold sForN; simp only [hs, hi]; rw [if_pos hx, h]; rfl
theorem sForN_ret {i : Nat} {b : BF} {s : SF} {ρ ρ' : Env} {v u : PV} {xs : List PV} (hs : slot ρ i = some v) (hi : items v = some xs) (hx : fros xs = true) (h : loop b s xs (ρ.set i none) = .rt u ρ') : sForN i b s ρ = .rt u (ρ'.set i (some v)) := by
  unfold sForN; simp only [hs, hi]; rw [if_pos hx, h]; rfl
theorem sFor_run {w : IF} {b : BF} {s : SF} {ρ ρ1 ρ' : Env} {xs : List PV} (hw : w ρ = .ok xs ρ1) (h : loop b s xs ρ1 = .nx ρ') : sFor w b s ρ = .nx ρ' := by
  unfold sFor; rw [hw, sOf_ok, h]
theorem range1_run {f : EF} {ρ ρ1 : Env} {n : Int} (h : f ρ = .ok (.int n) ρ1) (h0 : 0 ≤ n) (h1 : n ≤ 1000000) : iRange1 f ρ = .ok ((List.range n.toNat).map fun i => .int (i : Nat)) ρ1 := by
  unfold iRange1
  rw [h, Res.bind_ok]
  simp only
  rw [if_pos]
  simp only [Bool.and_eq_true, decide_eq_true_eq]
  refine ⟨⟨by omega, by omega⟩, ?_⟩
  unfold big; omega
theorem iE_run {f : EF} {ρ ρ1 : Env} {v : PV} {xs : List PV} (h : f ρ = .ok v ρ1) (hv : items (frz v) = some xs) : iE f ρ = .ok xs ρ1 := by
  unfold iE; rw [h, Res.bind_ok, hv, Res.of_some]
@[simp] theorem restore_nil {ρ0 : Env} : restore [] ρ0 ρ = ρ := (rfl)
def rs1 (i : Nat) (ρ : Env) : Option PV → Env
  | some v => if fro v = true then ρ.set i (some v) else ρ
  | none => ρ
@[simp] theorem restore_cons {i : Nat} {is : List Nat} {ρ0 : Env} : restore (i :: is) ρ0 ρ = rs1 i (restore is ρ0 ρ) (slot ρ0 i) := by
  rw [restore]; unfold rs1; cases slot ρ0 i <;> rfl
@[simp] theorem rs1_none {i : Nat} : rs1 i ρ none = ρ := (rfl)
@[simp] theorem rs1_some {i : Nat} : rs1 i ρ (some v) = if fro v = true then ρ.set i (some v) else ρ := (rfl)
@[simp] theorem wipe_nil : wipeE [] ρ = ρ := (rfl)
@[simp] theorem wipe_cons {i : Nat} {is : List Nat} : wipeE (i :: is) ρ = (wipeE is ρ).set i none := (rfl)
end Tr.Ev
/-! Tr: raise, try, on trees. -/
set_option autoImplicit false
namespace Tr
/-- an except clause: the classes that it takes, its name's slot, its suite -/
abbrev Hd := List Nat × Option Nat × SF
/-- behind a suite: its name is gone; a suite raises nothing -/
def suiteEnd (o : Option Nat) (r : SR) : SR := match r with
  | .er _ _ => .bad
  | r => match o with
    | none => r
    | some i => after r fun ρ => ρ.set i none
def runHd : List Hd → PExc → Env → SR
  | [], e, ρ => .er e ρ
  | (ks, o, s) :: hs, e, ρ => if ks.contains e.cls then suiteEnd o (s (match o with | none => ρ | some i => ρ.set i (some (.exc e.cls e.vals)))) else runHd hs e ρ
/-- n: how many classes -/
def sTry (n : Nat) (body : SF) (hs : List Hd) : SF := fun ρ => match body ρ with
  | .er e ρ1 => if e.cls < n then runHd hs e ρ1 else .bad
  | r => r
/-- raise C(..), C without fields -/
def sRaise0 (k : Nat) (g : AF) : SF := fun ρ => sOf (g ρ) fun _ ρ1 => .er ⟨k, []⟩ ρ1
/-- raise C(..), C with fields, the last one first -/
def sRaise (k : Nat) (g : AF) : SF := fun ρ => sOf (g ρ) fun vs ρ1 => .er ⟨k, (frzs vs).reverse⟩ ρ1
/-- e.f, the j-th field -/
def xfld (k j : Nat) : PV → Option PV
  | .exc k' vs => if k' = k then vs[j]? else none
  | _ => none
/-- isinstance(e, ..): ks the classes that are one of these, n: how many there are -/
def isaX (n : Nat) (ks : List Nat) : PV → Option Bool
  | .exc k _ => if k < n then some (ks.contains k) else none
  | _ => none
end Tr
set_option Elab.async false
set_option linter.all false
set_option maxRecDepth 100000
set_option maxHeartbeats 4000000
/-! Tr.T: try: body, except C (as n): suite .. -/
namespace Tr
open PySem PySem.Spec PyProof.Rows L2

section
variable {X : Cx} {pins : List (Addr × Obj)} {σ : L2.St} {H : Hp} {s : Shared} {a : Addr}
/-- an object of this frame's own time is tracked from now on -/
theorem Inv.track (I : L2.Inv X pins σ H s) {ph : Heap → Prop} (h0 : X.s_0.heap.get? a = none) (na : H a = none) (nl : a ≠ X.env.locals) (nc : ∀ x cc, X.env.cells.lookup x = some cc → cc ≠ a) (np : ∀ p ∈ X.pn ++ pins, p.1 ≠ a)
    (ok : ObjOk X.prog X.w (upd H a (.ext ph)) s.heap a (.ext ph)) : L2.Inv X pins σ (upd H a (.ext ph)) s := by
  have nb : ∀ b o, X.s_0.heap.get? b = some o → b ≠ a := fun b o e z => by rw [z, h0] at e; cases e
  have nt : ∀ b u, H b = some u → b ≠ a := fun b u e z => by rw [z, na] at e; cases e
  have sw : ∀ b u, H b = some u → upd H a (.ext ph) b = some u := fun b u e => by rw [upd_ne (nt b u e)]; exact e
  refine ⟨I.ok, I.os, I.bare, ?_, I.loc, I.cell, ?_, ?_, ?_, ?_, I.len⟩
  · refine ⟨I.base.keep, I.base.slot, ?_, I.base.there, ?_, ?_, ?_⟩
    · intro b o e n x
      rw [upd_ne (nb b o e)]
      exact I.base.free b o e n x
    · exact fun b xs e => sw _ _ (I.base.tups b xs e)
    · exact fun b o u e => sw _ _ (I.base.frzs b o u e)
    · intro b ps e
      obtain ⟨m, z⟩ := I.base.tbls b ps e
      exact ⟨m, sw _ _ z⟩
  · rw [upd_ne (Ne.symm nl)]; exact I.free
  · intro x cc e
    rw [upd_ne (nc x cc e)]; exact I.freeC x cc e
  · intro p hp
    obtain ⟨h1, h2, h3⟩ := I.pin p hp
    exact ⟨h1, by rw [upd_ne (np p hp)]; exact h2, h3⟩
  · intro b u e
    by_cases hb : b = a
    · subst hb
      rw [upd_same] at e; cases e
      exact ok
    · rw [upd_ne hb] at e
      exact (I.hok b u e).stay (fun _ _ _ z => z) (fun q z => sw _ _ z) fun q xs z => sw _ _ z
end

/-- the clauses and their functions -/
inductive HdOk (c : RC) (fx : Nat → Bool) (n : Nat) (X : Cx) : List ExceptHandler → List Hd → Prop
  | nil : HdOk c fx n X [] []
  | cons {x : Str} {np pos : Pos} {b : Stmt} {bs : List Stmt} {hds : List ExceptHandler} {l : List Hd} {j : Nat} {ks : List Nat} {s : SF} (hg : Names X x (.ref (c.cA j)))
      (ht : ∀ i, i < n → PySem.W.exmOne X.K (.ref (c.cA i)) (.ref (c.cA j)) = some (ks.contains i)) (hsu : ∀ a pn, SSs c W0 fx (X.suite a pn) (b :: bs) s) (r : HdOk c fx n X hds l) :
      HdOk c fx n X (.ExceptHandler (some (.Name x np)) none (b :: bs) pos :: hds) ((ks, none, s) :: l)
  | consAs {x nn : Str} {np pos : Pos} {b : Stmt} {bs : List Stmt} {hds : List ExceptHandler} {l : List Hd} {i j : Nat} {ks : List Nat} {s : SF} (hi : X.N[i]? = some nn) (hl : X.env.kindOf nn = some .local) (hf : fx i = false) (hg : Names X x (.ref (c.cA j)))
      (ht : ∀ i, i < n → PySem.W.exmOne X.K (.ref (c.cA i)) (.ref (c.cA j)) = some (ks.contains i)) (hsu : ∀ a pn, SSs c W0 fx (X.suite a pn) (b :: bs) s) (r : HdOk c fx n X hds l) :
      HdOk c fx n X (.ExceptHandler (some (.Name x np)) (some nn) (b :: bs) pos :: hds) ((ks, some i, s) :: l)
/-- what is wished of an exception of the body -/
def wTry (c : RC) (W : WX) (fx : Nat → Bool) (n : Nat) (l : List Hd) (σ0 : L2.St) (H0 : Hp) (F0 A0 : AS) (D : Ends) : WX := fun cls d σ H =>
  ∃ e ρ F A, Stp H0 F0 A0 H F A ∧ Keep fx σ0 σ ∧ Good H F A ∧ RX c H F e cls d ∧ RE c H F ρ σ A ∧ e.cls < n ∧ PostS c W fx σ0 H0 F0 A0 (runHd l e ρ) D
section
variable {X : Cx} {c : RC} {W : WX} {fx : Nat → Bool} {k n : Nat} {body : List Stmt} {h0 : ExceptHandler} {hds : List ExceptHandler} {l : List Hd} {pos : Pos} {s : SF}
theorem suite_rx {H : Hp} {F A : AS} {ρ : Env} {σ : L2.St} {e : PExc} {cls : Value} {d : Option Addr} {a : Addr} (g : Good H F A) (rx : RX c H F e cls d) (re : RE c H F ρ σ A) (na : H a = none) :
    Stp H F A (upd H a (exv a (c.cA e.cls) d)) (Uni F (fun q => q = a)) A ∧ Good (upd H a (exv a (c.cA e.cls) d)) (Uni F (fun q => q = a)) A ∧ RE c (upd H a (exv a (c.cA e.cls) d)) (Uni F (fun q => q = a)) ρ σ A ∧ R c (upd H a (exv a (c.cA e.cls) d)) (Uni F (fun q => q = a)) (.exc e.cls e.vals) (.ref a) Emp := by
  have nt : ∀ b u, H b = some u → b ≠ a := fun b u e z => by rw [z, na] at e; cases e
  have st : ∀ B, Stp H F B (upd H a (exv a (c.cA e.cls) d)) (Uni F (fun q => q = a)) B := fun B => {
    keep := fun p o h _ => by rw [upd_ne (nt p o h)]; exact h
    live := fun p h => by
      by_cases z : p = a
      · rw [z]; exact na
      · rw [upd_ne z] at h; exact h
    mono := fun p h => .inl h
    newF := fun p h => h.elim .inl fun z => .inr (.inl (by rw [z]; exact na))
    newA := fun p h => .inr h }
  have gg : Good (upd H a (exv a (c.cA e.cls) d)) (Uni F (fun q => q = a)) A := ⟨fun p h => by
      obtain ⟨h1, o, h2, h3⟩ := g.own p h
      exact ⟨fun z => z.elim h1 (nt p o h2), o, by rw [upd_ne (nt p o h2)]; exact h2, h3⟩, fun p h => by
      rcases h with h | h
      · obtain ⟨o, h2⟩ := g.fro p h
        exact ⟨o, by rw [upd_ne (nt p o h2)]; exact h2⟩
      · exact ⟨_, by rw [h]; exact upd_same⟩⟩
  have ge : Good H F Emp := g.sub Sub.emp
  have re2 : RE c (upd H a (exv a (c.cA e.cls) d)) (Uni F (fun q => q = a)) ρ σ A := RE.step ge (st Emp) re Dis.empr
  refine ⟨st A, gg, re2, ?_⟩
  obtain ⟨e1, e2⟩ := rx
  by_cases hv : e.vals = []
  · rw [if_pos hv] at e2
    exact ⟨a, d, [], rfl, ⟨upd_same, .inr rfl⟩, .inl ⟨hv, e2⟩, by rw [hv]; exact rfl⟩
  · rw [if_neg hv] at e2
    obtain ⟨dd, vs, h1, h2, h3, h4⟩ := e2
    refine ⟨a, d, vs, rfl, ⟨upd_same, .inr rfl⟩, .inr ⟨dd, h1, h2, by rw [upd_ne (nt _ _ h3)]; exact h3⟩, ?_⟩
    exact Rs.step ge (st Emp) h4 Dis.empl

theorem exv_ok {P : Program} {w : World} {H : Hp} {h : Heap} {a C : Addr} {d : Option Addr} {o : Obj} {vs : Array Value} (e : h.get? a = some o) (hz : Zc (.ref C) d o) (hd : o.data = .fields vs) : ObjOk P w H h a (exv a C d) :=
  ⟨⟨o, vs, e, hz.1, hz.2, hd⟩, ⟨o, e⟩, fun _ _ ⟨o', vs', e', x1, x2, x3⟩ k => ⟨o', vs', k _ e', x1, x2, x3⟩⟩
theorem Inv.suite0 {pins : List (Addr × Obj)} {σ : L2.St} {H : Hp} {s : Shared} (I : L2.Inv X pins σ H s) (a : Addr) : L2.Inv (X.suite a (X.pn ++ pins)) [] σ H s :=
  ⟨I.ok.suite _ _, I.os, I.bare, I.base, I.loc, I.cell, I.free, I.freeC, fun p hp => by rw [List.append_nil] at hp; exact I.pin p hp, I.hok, I.len⟩
theorem Inv.unsuite0 {pins pn' : List (Addr × Obj)} {σ : L2.St} {H : Hp} {s : Shared} {a : Addr} (I : L2.Inv (X.suite a (X.pn ++ pins)) pn' σ H s) (ok : X.Ok) : L2.Inv X pins σ H s :=
  ⟨ok, I.os, I.bare, I.base, I.loc, I.cell, I.free, I.freeC, fun p hp => I.pin p (List.mem_append_left _ hp), I.hok, I.len⟩
/-- what a suite's function promises, without its exceptions -/
theorem PostS.noEr {σ : L2.St} {H : Hp} {F A : AS} {r : SR} {D : Ends} {o : Option Nat} (p : PostS c W fx σ H F A (suiteEnd o r) D) : r = .bad ∨ (∃ e ρ, r = .er e ρ) ∨ True := .inr (.inr trivial)
theorem suite_none {σ σ1 : L2.St} {H H1 : Hp} {F A F1 A1 : AS} {r : SR} {D : Ends} (p : PostS c W fx σ H F A (suiteEnd none r) D) (st : Stp H F A H1 F1 A1) (kp : Keep fx σ σ1) : PostS c W0 fx σ1 H1 F1 A1 r D := by
  cases r with
  | er e ρ => exact (show False from p).elim
  | nx ρ => exact PostS.base (W := W0) (c := c) (fx := fx) (r := .nx ρ) p st kp
  | bk ρ => exact PostS.base (W := W0) (c := c) (fx := fx) (r := .bk ρ) p st kp
  | ct ρ => exact PostS.base (W := W0) (c := c) (fx := fx) (r := .ct ρ) p st kp
  | rt v ρ => exact PostS.base (W := W0) (c := c) (fx := fx) (r := .rt v ρ) p st kp
  | bad => exact p
/-- the ends, once the name in slot i is gone -/
def goneD (i : Nat) (D : Ends) : Ends := { nx := fun σ H => D.nx (σ.set i none) H, rt := D.rt, bk := fun σ H => D.bk (σ.set i none) H, ct := fun σ H => D.ct (σ.set i none) H }
theorem RE.gone {H : Hp} {F a : AS} {ρ : Env} {σ : L2.St} (i : Nat) (h : RE c H F ρ σ a) : RE c H F (ρ.set i none) (σ.set i none) a := RE.wipeσ i (RE.wipe i h)
theorem suite_some {i : Nat} {σ σ1 : L2.St} {H H1 : Hp} {F A F1 A1 : AS} {r : SR} {D : Ends} (hf : fx i = false) (p : PostS c W fx σ H F A (suiteEnd (some i) r) D) (st : Stp H F A H1 F1 A1) (kp : Keep fx σ σ1) : PostS c W0 fx σ1 H1 F1 A1 r (goneD i D) := by
  cases r with
  | er e ρ => exact (show False from p).elim
  | nx ρ => exact fun σ2 H2 F2 b t g e k => p _ _ _ _ (st.trans t) g (RE.gone i e) ((kp.trans k).trans (Keep.set hf))
  | bk ρ => exact fun σ2 H2 F2 b t g e k => p _ _ _ _ (st.trans t) g (RE.gone i e) ((kp.trans k).trans (Keep.set hf))
  | ct ρ => exact fun σ2 H2 F2 b t g e k => p _ _ _ _ (st.trans t) g (RE.gone i e) ((kp.trans k).trans (Keep.set hf))
  | rt v ρ => exact fun x σ2 H2 F2 a b t g d r e k => p x _ _ _ a b (st.trans t) g d r (RE.gone i e) ((kp.trans k).trans (Keep.set hf))
  | bad => exact p
/-- THE RULE: try: body, except C (as n): suite .. -/
theorem ss_try (D : Dk X c W k) (hb : ∀ W' pn xe, Dk (X.tr pn xe) c W' k → SSs c W' fx (X.tr pn xe) body s) (hh : HdOk c fx n X (h0 :: hds) l)
    (hs : X.stack = X.env :: X.outer := by rfl) (hf : X.env.frame = some X.env.locals := by rfl) (hx : X.ex = [] := by rfl) : SS c W fx X (.Try body (h0 :: hds) [] [] pos) (sTry n s l) := by
  refine ⟨fun pins s0 σ H En I q => ?_⟩
  obtain ⟨ρ, F, A, g, e, p⟩ := q
  have ok := I.ok
  have fr0 : X.A.frames = some (X.env :: X.outer) := by rw [ok.frames, hs]
  refine wpAny_Try_except ?_
  have run := (hb (wTry c W fx n l σ H F A En) (X.pn ++ pins) (fun u s₁ => wpAny (model X.prog X.w) X.A (noteFrame u X.env) (fun _ s₂ => wpAny (model X.prog X.w) X.A (setFlight u none)
      (fun _ s₃ => wpAny (model X.prog X.w) X.A (handleBy u X.env (h0 :: hds)) (SP X pins En) X.xe s₃) X.xe s₂) X.xe s₁) ⟨D.K, D.hr, D.calm, D.nd, ?tk, PassesOwn.looking, D.gd⟩).run [] s0 σ H En (I.toTry _) ⟨ρ, F, A, g, e, ?body⟩
  case body =>
    unfold sTry at p
    cases r : s ρ with
    | er x ρ1 =>
      rw [r] at p
      simp only at p
      by_cases hn : x.cls < n
      · rw [if_pos hn] at p
        exact fun cls d σ1 H1 F1 b t g1 rx e1 kp => ⟨x, ρ1, F1, b, t, kp, g1, rx, e1, hn, p⟩
      · rw [if_neg hn] at p
        exact (show False from p).elim
    | nx ρ1 => rw [r] at p; exact p
    | bk ρ1 => rw [r] at p; exact p
    | ct ρ1 => rw [r] at p; exact p
    | rt v ρ1 => rw [r] at p; exact p
    | bad => rw [r] at p; exact p
  case tk =>
    rintro u s' ⟨a, B, sI, pins', σ1, H1, cls, d, rfl, J', nb, up, sky, na, os, ag, w⟩
    have J : L2.Inv X pins σ1 H1 sI := J'.ofTry ok
    obtain ⟨x, ρ1, F1, A1, st, kp, g1, rx, e1, hn, p1⟩ := w
    have sky1 : Sky B (X.env :: X.outer) a (Zc cls d) X.env.locals s'.heap := hs ▸ sky
    refine Sky.land Zc.steady fr0 hf sky1 fun h3 fl3 up3 => ?_
    obtain ⟨oe3, vs3, he3, hz3, hd3⟩ := fl3.there
    have J3 : L2.Inv X pins σ1 H1 { s' with heap := h3 } := J.landed nb fl3.1 (up.trans up3) os ag
    have nfr : a ∉ frs (X.env :: X.outer) := fun hm => by
      obtain ⟨_, o', e', hnf⟩ := fl3.2.2.1.mem hm
      rw [he3] at e'; cases e'
      exact hnf _ hd3
    have nL : a ≠ X.env.locals := fun z => nfr (List.mem_filterMap.mpr ⟨X.env, List.mem_cons_self, by rw [hf, z]⟩)
    have nI : sI.heap.get? a = none := by
      cases q : sI.heap.get? a with
      | none => rfl
      | some o =>
        have := nb a o q (by rw [hs]; exact nfr)
        rw [fl3.2.1] at this; cases this
    have n0 : X.s_0.heap.get? a = none := by
      cases q : X.s_0.heap.get? a with
      | none => rfl
      | some o =>
        obtain ⟨o', q'⟩ := J.base.there a o q (by rw [hx]; exact List.not_mem_nil)
        rw [nI] at q'; cases q'
    have np : ∀ y ∈ X.pn ++ pins, y.1 ≠ a := fun y hy z => by
      have := (J.pin y hy).1
      rw [z, nI] at this; cases this
    have ecls : cls = .ref (c.cA x.cls) := rx.1
    have go : ∀ {hds' : List ExceptHandler} {l' : List Hd}, HdOk c fx n X hds' l' → PostS c W fx σ H F A (runHd l' x ρ1) En →
        wpAny (model X.prog X.w) X.A (handleBy (.ref a) X.env hds') (SP X pins En) X.xe { s' with heap := h3 } := by
      intro hds' l' hk
      have LT : PySem.W.Looks (model X.prog X.w) h3 (typeOf (.ref a)) cls := fun A' Q' E' s'' kk q => wpAny_typeOf_ref (kk _ _ he3) (by rw [hz3.1]; exact q)
      have S3 : L2.Inv (X.suite a (X.pn ++ pins)) [] σ1 H1 { s' with heap := h3 } := Inv.suite0 J3 a
      have name : ∀ {y : Str} {np' : Pos} {cv : Value} {Q : Value → Shared → Prop} {E : Value → Shared → Prop}, Names X y cv → Q cv { s' with heap := h3 } → wpAny (model X.prog X.w) (X.A.mark (some (.ref a))) (eval (.Name y np') X.env) Q E { s' with heap := h3 } := fun hc q => by
        obtain ⟨hg, hdbg, hm | ⟨hm, hv, hnn⟩⟩ := hc
        · exact ld_glob S3 hg hm q hdbg
        · exact ld_blt S3 hg hm hv q hnn hdbg
      -- the suite's start
      have enter : ∀ {h4 : Heap}, HandSPX.FlyingZ B (X.env :: X.outer) a (Zc cls d) h4 → h3.UpToSlots h4 → L2.Inv (X.suite a (X.pn ++ pins)) [] σ1 (upd H1 a (exv a (c.cA x.cls) d)) { s' with heap := h4 } := fun {h4} fl4 up4 => by
        obtain ⟨oe4, vs4, he4, hz4, hd4⟩ := fl4.there
        have J4 : L2.Inv X pins σ1 H1 { s' with heap := h4 } := J.landed nb fl4.1 ((up.trans up3).trans up4) os ag
        refine Inv.track (Inv.suite0 J4 a) n0 na nL (fun y cc ec z => ?_) (fun y hy => np y (by rw [List.append_nil] at hy; exact hy)) (exv_ok he4 (ecls ▸ hz4) hd4)
        obtain ⟨v, o', q1, q2⟩ := J4.cell y cc ec
        rw [z] at q1
        rw [show h4.get? a = some oe4 from he4] at q1; cases q1
        rw [hd4] at q2; cases q2
      induction hk with
      | nil =>
        intro pp
        refine wpAny_handleBy_nil ?_
        have leave : wpAny (model X.prog X.w) X.A (setFlight (.ref a) X.env.frame) (fun _ s4 => wpAny (model X.prog X.w) X.A (throw (.ref a) : Sem Flow) (SP X pins En) X.xe s4) X.xe { s' with heap := h3 } := by
          rw [hf]
          refine HandSPX.setFlight_upZ fl3 fun h4 hh4 up4 => wpAny_throw (D.tk _ _ ?_)
          exact ⟨a, B, sI, pins, σ1, H1, cls, d, rfl, J, nb, (up.trans up3).trans up4, .inr (.inr (by rw [hs]; exact hh4)), na, os, ag, pp cls d σ1 H1 F1 A1 st g1 rx e1 kp⟩
        obtain ⟨_, _, _, oe, vs, T, oT, ts', q1, _, q2, q3, _⟩ := id fl3
        unfold PySem.passOn
        refine wpAny_bind (wpAny_field q1 q2 q3 ?_)
        rw [if_neg (show ¬ ((Value.ref T == Value.none) = true) from by simp)]
        first
          | exact wpAny_bind (wpAny_pure (wpAny_bind leave))
          | exact wpAny_bind leave
      | @cons y np' ps b bs hds2 l2 j ks s2 hg ht hsu r ih =>
        intro pp
        have hex : PySem.W.exmOne X.K cls (.ref (c.cA j)) = some (ks.contains x.cls) := by rw [ecls]; exact ht _ hn
        have LM := PySem.W.exm_one (M := model X.prog X.w) J3.kIn LT hex
        refine wpAny_handleBy_cons (codeAny_handlers_test (name hg (LM.here ?_))) (by intro q; cases q)
        unfold runHd at pp
        by_cases hc : ks.contains x.cls = true
        · rw [if_pos hc] at pp
          rw [hc]
          refine codeAny_handlers_suite (HandSPX.lands_againZ fl3 fun h4 fl4 up4 => ?_)
          obtain ⟨t1, t2, t3, t4⟩ := suite_rx g1 rx e1 na
          refine wpAny_mono ((hsu a (X.pn ++ pins)).run [] _ σ1 _ En (enter fl4 up4) ⟨ρ1, _, A1, t2, t3, suite_none pp (st.trans t1) kp⟩) (fun f s6 hsp => ?_) (fun _ _ z => False.elim z)
          cases f with
          | next => obtain ⟨σ6, H6, S6, q6⟩ := hsp; exact ⟨_, _, Inv.unsuite0 S6 ok, q6⟩
          | brk => obtain ⟨σ6, H6, S6, q6⟩ := hsp; exact ⟨_, _, Inv.unsuite0 S6 ok, q6⟩
          | cont => obtain ⟨σ6, H6, S6, q6⟩ := hsp; exact ⟨_, _, Inv.unsuite0 S6 ok, q6⟩
          | ret u => obtain ⟨v6, σ6, H6, S6, r6, q6⟩ := hsp; exact ⟨_, _, _, Inv.unsuite0 S6 ok, r6, q6⟩
        · rw [if_neg hc] at pp
          rw [Bool.eq_false_iff.mpr hc]
          exact ih pp
      | @consAs y nn np' ps b bs hds2 l2 i j ks s2 hi hl hfi hg ht hsu r ih =>
        intro pp
        have hex : PySem.W.exmOne X.K cls (.ref (c.cA j)) = some (ks.contains x.cls) := by rw [ecls]; exact ht _ hn
        have LM := PySem.W.exm_one (M := model X.prog X.w) J3.kIn LT hex
        refine wpAny_handleBy_cons (codeAny_handlers_test (name hg (LM.here ?_))) (by intro q; cases q)
        unfold runHd at pp
        by_cases hc : ks.contains x.cls = true
        · rw [if_pos hc] at pp
          rw [hc]
          refine codeAny_handlers_suite_as (HandSPX.lands_againZ fl3 fun h4 fl4 up4 => ?_)
          obtain ⟨t1, t2, t3, t4⟩ := suite_rx g1 rx e1 na
          refine store_ok (X := X.suite a (X.pn ++ pins)) (v := .ref a) (enter fl4 up4) D.nd hi (.inl hl) rfl (fun s5 S5 => ?_) (.inr hl)
          have e5 := RE.storeAny (i := i) t3 t4 Dis.empl
          have e6 := e5.mono (Sub.uni Sub.emp (Sub.refl A1))
          refine wpAny_mono ((hsu a (X.pn ++ pins)).run [] s5 _ _ (goneD i En) S5 ⟨_, _, A1, t2, e6, suite_some hfi pp (st.trans t1) (kp.trans (Keep.set hfi))⟩) (fun f s6 hsp => ?_) (fun _ _ z => False.elim z)
          cases f with
          | next => obtain ⟨σ6, H6, S6, q6⟩ := hsp; exact gone_ok (Inv.unsuite0 S6 ok) D.nd hi hl fun s7 J7 => ⟨_, _, J7, q6⟩
          | brk => obtain ⟨σ6, H6, S6, q6⟩ := hsp; exact gone_ok (Inv.unsuite0 S6 ok) D.nd hi hl fun s7 J7 => ⟨_, _, J7, q6⟩
          | cont => obtain ⟨σ6, H6, S6, q6⟩ := hsp; exact gone_ok (Inv.unsuite0 S6 ok) D.nd hi hl fun s7 J7 => ⟨_, _, J7, q6⟩
          | ret u => obtain ⟨v6, σ6, H6, S6, r6, q6⟩ := hsp; exact gone_ok (Inv.unsuite0 S6 ok) D.nd hi hl fun s7 J7 => ⟨_, _, _, J7, r6, q6⟩
        · rw [if_neg hc] at pp
          rw [Bool.eq_false_iff.mpr hc]
          exact ih pp
    exact go hh p1
  refine wpAny_mono run (fun f s1 hsp => ?_) (fun _ _ he => he)
  cases f with
  | next => obtain ⟨σ', H', J', q⟩ := hsp; exact wpAny_execs_nil ⟨σ', H', J'.ofTry ok, q⟩
  | brk => obtain ⟨σ', H', J', q⟩ := hsp; exact ⟨σ', H', J'.ofTry ok, q⟩
  | cont => obtain ⟨σ', H', J', q⟩ := hsp; exact ⟨σ', H', J'.ofTry ok, q⟩
  | ret u => obtain ⟨v, σ', H', J', r, q⟩ := hsp; exact ⟨v, σ', H', J'.ofTry ok, r, q⟩
end
end Tr
set_option Elab.async false
set_option linter.all false
set_option maxRecDepth 100000
set_option maxHeartbeats 4000000
/-! Tr.T2: raise C(..), e.f, isinstance(e, C). -/
namespace Tr
open PySem PySem.Spec PyProof.Rows L2

/-- the own exception class j, called x -/
structure XT (K : PySem.W.Frag) (mg : Str → Option Value) (c : RC) (j : Nat) (x : Str) : Prop where
  mg : mg x = some (.ref (c.cA j))
  sub : PySem.W.subIn K (.ref (c.cA j)) (.type "BaseException") = some true
  ty : PySem.W.typeIn K (.ref (c.cA j)) = some (.type "type")
  kp : PySem.W.keepIn K (.ref (c.cA j)) = true
  cl : PySem.W.isClsIn K (c.cA j) = true
  hd : PySem.W.hasDictIn K (c.cA j) = true
  ga : PySem.W.findIn K (.ref (c.cA j)) "__getattribute__" = some (some (.builtin "BaseException.__getattribute__"))
  gg : PySem.W.findIn K (.ref (c.cA j)) "__getattr__" = some none
  ca : PySem.W.findIn K (.ref (c.cA j)) "__class__" = some (some (.builtin "object.__class__"))
  mo : PySem.W.mroIn K (c.cA j) (.type "object") = some true
/-- said once -/
structure XG (K : PySem.W.Frag) : Prop where
  sp : PySem.W.specialIn K (.builtin "object.__class__") "__get__" = some (some (.builtin "getset_descriptor.__get__"))
  tk : PySem.W.takesIn K (.builtin "object.__class__") = some true
/-- the classes below n that are, or come from, the one called u: ks -/
def XS (K : PySem.W.Frag) (c : RC) (n : Nat) (u : Value) (ks : List Nat) : Prop := ∀ i, i < n → PySem.W.subIn K (.ref (c.cA i)) u = some (ks.contains i)
section
variable {K : PySem.W.Frag} {mg : Str → Option Value} {c : RC} {n j : Nat} {x : Str} {ks : List Nat}
theorem XS.exm (h : XS K c n (.ref (c.cA j)) ks) (T : XT K mg c j x) : ∀ i, i < n → PySem.W.exmOne K (.ref (c.cA i)) (.ref (c.cA j)) = some (ks.contains i) := fun i hi => by
  have e2 : ((PySem.W.clsIn K (c.cA j)).isSome && PySem.W.typeIn K (.ref (c.cA j)) == some (.type "type")) = true := by
    rw [show (PySem.W.clsIn K (c.cA j)).isSome = true from T.cl, T.ty] <;> rfl
  unfold PySem.W.exmOne PySem.W.kitCls
  rw [if_pos (by rw [T.sub] <;> rfl)]
  dsimp only
  rw [if_pos e2]
  exact h i hi
theorem XS.kit (h : XS K c n (.ref (c.cA j)) ks) (T : XT K mg c j x) (hj : j < n) (hk : ks.contains j = true) : ∀ i, i < n → PySem.W.kitOne K (.ref (c.cA i)) (.ref (c.cA j)) = some (ks.contains i) := fun i hi => by
  have e2 : ((PySem.W.clsIn K (c.cA j)).isSome && PySem.W.typeIn K (.ref (c.cA j)) == some (.type "type")) = true := by
    rw [show (PySem.W.clsIn K (c.cA j)).isSome = true from T.cl, T.ty] <;> rfl
  unfold PySem.W.kitOne PySem.W.kitCls
  split
  · rename_i e
    have e' : c.cA i = c.cA j := Value.ref.inj (beq_iff_eq.mp e)
    have h1 := h i hi
    have h2 := h j hj
    rw [e', h2] at h1
    rw [hk] at h1
    exact h1
  · dsimp only
    rw [if_pos e2]
    exact h i hi
theorem XS.kitT {T : String} (h : XS K c n (.type T) ks) (hm : PySem.W.kitMeta T = true) : ∀ i, i < n → PySem.W.kitOne K (.ref (c.cA i)) (.type T) = some (ks.contains i) := fun i hi => by
  unfold PySem.W.kitOne PySem.W.kitCls
  rw [if_neg (by simp)]
  dsimp only
  rw [if_pos hm]
  exact h i hi
/-- one of several classes -/
def XA (K : PySem.W.Frag) (c : RC) (n : Nat) (us : List Value) (ks : List Nat) : Prop := ∀ i, i < n → PySem.W.kitAny K (.ref (c.cA i)) us = some (ks.contains i)
theorem xa_nil : XA K c n [] [] := fun i hi => rfl
theorem xa_cons {u : Value} {us : List Value} {ks ls : List Nat} (h : ∀ i, i < n → PySem.W.kitOne K (.ref (c.cA i)) u = some (ks.contains i)) (r : XA K c n us ls) : XA K c n (u :: us) (ks ++ ls) := fun i hi => by
  unfold PySem.W.kitAny
  rw [h i hi]
  have e : (ks ++ ls).contains i = (ks.contains i || ls.contains i) := by simp [List.contains_eq_any_beq]
  cases q : ks.contains i with
  | true => rw [e, q]; rfl
  | false => rw [e, q]; exact (r i hi).trans (by rfl)
end
section
variable {X : Cx} {c : RC} {W : WX} {k n : Nat} {o : Expr} {oo : Opd} {pos p p2 p3 pos' : Pos}
/-! ### e.f -/
def tXv (K : PySem.W.Frag) (C : Addr) (f : Str) (to : TE) : TE := fun σ H Q => to σ H fun x H1 => ∃ a dd fs v, x = .ref a ∧ H1 a = some (exv a C (some dd)) ∧ H1 dd = some (.xd fs) ∧ fs.lookup f = some v ∧ Q v H1
theorem exv_at {P : Program} {w : World} {H : Hp} {h : Heap} {a C : Addr} {d : Option Addr} (I : HOk P w H h) (e : H a = some (exv a C d)) : ∃ oe vs, h.get? a = some oe ∧ oe.cls = .ref C ∧ oe.dict = d ∧ oe.data = .fields vs :=
  (show ObjOk P w H h a (exv a C d) from I a _ e).1
theorem pe_xv {to : TE} {f : Str} {C : Addr} (ga : PySem.W.findIn X.K (.ref C) "__getattribute__" = some (some (.builtin "BaseException.__getattribute__"))) (gg : PySem.W.findIn X.K (.ref C) "__getattr__" = some none)
    (sub : PySem.W.subIn X.K (.ref C) (.type "BaseException") = some true) (hd : PySem.W.hasDictIn X.K C = true) (no : PySem.W.findIn X.K (.ref C) f = some none) (he : PE X o to) (hb : attributeBase o f X.env (eval o X.env) = eval o X.env := by rfl) :
    PE X (.Attribute o f pos) (tXv X.K C f to) := by
  refine ⟨fun pins s σ H Q I h => attr_of hb (thn (he.run pins s σ H _ I h) fun u s1 hh => ?_)⟩
  obtain ⟨x, H1, I1, rx, a, dd, fs, v, rfl, ea, ed, l, q⟩ := hh
  obtain rfl : u = Value.ref a := rx
  obtain ⟨oe, vs, h1, h2, h3, h4⟩ := exv_at I1.hok ea
  obtain ⟨mA, hns, hr⟩ := (show ObjOk X.prog X.w H1 s1.heap dd (.xd fs) from I1.hok dd _ ed)
  obtain ⟨od, ho, hl⟩ := lookIn_ns hns
  obtain ⟨u, hu, ru⟩ := RelO.some_of (v := v) (o := mA f) (by rw [← l]; exact hr f)
  have J : PySem.W.InstAt s1.heap a oe C (some od) := ⟨h1, h2, by unfold PySem.W.notCls; rw [h4] <;> rfl, by rw [h3]; exact ho⟩
  exact HandSPX.exc_get I1.kIn J ga gg sub (PySem.W.findObj_own hd no rfl (by rw [hl, hu])) (handed_of ru) ⟨v, H1, I1.tok _, ru, q⟩
theorem lookup_zip : ∀ {fs : List Str} {vs : List V} {j : Nat} {f : Str}, fs[j]? = some f → (∀ i, i < j → fs[i]? ≠ some f) → (fs.zip vs).lookup f = vs[j]?
  | [], vs, j, f, h, _ => by simp at h
  | g :: fs, [], j, f, h, _ => by simp
  | g :: fs, v :: vs, 0, f, h, _ => by
    simp at h; subst h
    simp [List.lookup]
  | g :: fs, v :: vs, j + 1, f, h, n => by
    have ne : (f == g) = false := by
      have := n 0 (by omega)
      simp at this
      simpa using fun e => this e.symm
    rw [List.zip_cons_cons, List.lookup_cons, ne]
    have := lookup_zip (vs := vs) (j := j) (f := f) (by simpa using h) (fun i hi => by simpa using n (i + 1) (by omega))
    simpa using this
/-- e.f, f the j-th field of the class number kk -/
theorem e_xfld {kk j : Nat} {x f : Str} {fs : List Str} (D : Ds X c) (T : XT X.K X.mg c kk x) (hF : c.cF kk = fs) (hj : fs[j]? = some f) (hd : ∀ i, i < j → fs[i]? ≠ some f) (no : PySem.W.findIn X.K (.ref (c.cA kk)) f = some none)
    (ho : SO X c W o oo) (hb : attributeBase o f X.env (eval o X.env) = eval o X.env := by rfl) : SE X c W (.Attribute o f pos) (eP1 (xfld kk j) oo) := by
  refine PE.weak (pe_xv T.ga T.gg T.sub T.hd no ho hb) fun σ H Q q => ?_
  refine tO.one q fun v x y ρ1 H1 F1 A1 b g sb e ⟨a, sa, r⟩ kq p => ?_
  cases v with
  | exc k2 vals =>
    simp only [xfld] at kq
    split at kq
    · rename_i ek
      subst ek
      obtain ⟨pa, d, vs, rfl, ⟨h1, h2⟩, z, rs⟩ := r
      rcases z with ⟨z1, z2⟩ | ⟨dd, rfl, l, h3⟩
      · rw [z1] at kq; simp at kq
      · obtain ⟨w, bb, e1, _, rw'⟩ := rs.get kq
        refine ⟨pa, dd, _, w, rfl, h1, h3, ?_, ?_⟩
        · rw [hF, lookup_zip hj hd]; exact e1
        · exact Post.now p g sb (rs.getV kq e1) e
    · cases kq
  | non => cases kq
  | bl _ => cases kq
  | int _ => cases kq
  | str _ => cases kq
  | tup _ => cases kq
  | lst _ _ => cases kq
  | dct _ _ _ => cases kq
  | ins _ _ _ => cases kq
  | con _ => cases kq
/-! ### isinstance(e, C) -/
theorem exv_kit {C : Addr} {x : Str} {j : Nat} (T : XT X.K X.mg c j x) (G : XG X.K) {P : Program} {w : World} {H : Hp} {h : Heap} {a : Addr} {d : Option Addr} (I : HOk P w H h) (e : H a = some (exv a (c.cA j) d)) (hdd : ∀ dd, d = some dd → ∃ fs, H dd = some (.xd fs)) :
    ∃ ox od, PySem.W.KitX X.K (.ref a) (.ref (c.cA j)) (fun h => PySem.W.InstAt h a ox (c.cA j) od) ∧ PySem.W.InstAt h a ox (c.cA j) od := by
  obtain ⟨oe, vs, h1, h2, h3, h4⟩ := exv_at I e
  have nc : PySem.W.notCls oe = true := by unfold PySem.W.notCls; rw [h4] <;> rfl
  cases d with
  | none => exact ⟨oe, none, PySem.W.kitx_exc T.cl T.ga T.gg T.sub T.ca G.sp G.tk T.mo, h1, h2, nc, by rw [h3]; trivial⟩
  | some dd =>
    obtain ⟨fs, hf⟩ := hdd dd rfl
    obtain ⟨mA, ⟨od, _, _, ho, _⟩, _⟩ := (show ObjOk P w H h dd (.xd fs) from I dd _ hf)
    exact ⟨oe, some od, PySem.W.kitx_exc T.cl T.ga T.gg T.sub T.ca G.sp G.tk T.mo, h1, h2, nc, by rw [h3]; exact ho⟩
/-- x is an exception of the class j -/
def IsX (c : RC) (H : Hp) (x : V) (j : Nat) : Prop := ∃ a d, x = .ref a ∧ H a = some (exv a (c.cA j) d) ∧ ∀ dd, d = some dd → ∃ fs, H dd = some (.xd fs)
/-- the classes below n -/
def XAll (K : PySem.W.Frag) (mg : Str → Option Value) (c : RC) (n : Nat) : Prop := ∀ j, j < n → ∃ x, XT K mg c j x
def rIX1 (c : RC) (K : PySem.W.Frag) (n : Nat) : List V → Hp → VK → Prop := fun xs H Q => ∃ (x cv : V) (u : Value) (j : Nat) (b : Bool), xs = [x, cv] ∧ ClsV cv u ∧ j < n ∧ IsX c H x j ∧ PySem.W.kitOne K (.ref (c.cA j)) u = some b ∧ Q (.bl b) H
def rIXT (c : RC) (K : PySem.W.Frag) (n : Nat) : List V → Hp → VK → Prop := fun xs H Q => ∃ (x : V) (tp : Addr) (cs : List V) (us : List Value) (j : Nat) (b : Bool), xs = [x, .ref tp] ∧ H tp = some (.tup cs) ∧ Paired ClsV cs us ∧ j < n ∧ IsX c H x j ∧ PySem.W.kitAny K (.ref (c.cA j)) us = some b ∧ Q (.bl b) H
theorem cr_ix1 (A : XAll X.K X.mg c n) (G : XG X.K) : CallR X (.builtin "isinstance") (rIX1 c X.K n) := by
  intro pins s σ H xs us Q I r h
  obtain ⟨x, cv, u, j, b, rfl, k, hj, ⟨a, d, rfl, ha, hdd⟩, e, q⟩ := h
  obtain ⟨u1, u2, rfl, r1, r2⟩ := vals2 r
  have e2 := k.eq r2
  subst e2
  obtain ⟨y, T⟩ := A j hj
  obtain ⟨ox, od, Z, p⟩ := exv_kit (X := X) (C := 0) T G I.hok ha hdd
  cases (show u1 = Value.ref a from r1)
  exact PySem.W.kia_one Z I.kIn p e (fun z => nomatch z) fun tk => ⟨.bl b, H, I.tok tk, rfl, q⟩
theorem cr_ixT (A : XAll X.K X.mg c n) (G : XG X.K) : CallR X (.builtin "isinstance") (rIXT c X.K n) := by
  intro pins s σ H xs us Q I r h
  obtain ⟨x, tp, cs, ws, j, b, rfl, hT, k, hj, ⟨a, d, rfl, ha, hdd⟩, e, q⟩ := h
  obtain ⟨u1, u2, rfl, r1, r2⟩ := vals2 r
  cases (show u2 = Value.ref tp from r2)
  obtain ⟨y, T⟩ := A j hj
  obtain ⟨ox, od, Z, p⟩ := exv_kit (X := X) (C := 0) T G I.hok ha hdd
  obtain ⟨_, its, rv, o, h1, h2, m, h3⟩ := (show ObjOk X.prog X.w H s.heap tp (.tup cs) from I.hok tp _ hT)
  have e3 := ClsV.all k rv
  subst e3
  obtain ⟨oc, od', dt, sl⟩ := o
  simp only at h2 h3
  subst h2 h3
  cases (show u1 = Value.ref a from r1)
  exact PySem.W.kia_tup Z I.kIn p h1 e (fun z => nomatch z) fun tk => ⟨.bl b, H, I.tok tk, rfl, q⟩
/-- a class as an expression -/
def tCls (v : V) : TE := fun σ H Q => Q v H
structure CE (X : Cx) (e : Expr) (v : V) (u : Value) : Prop where
  pe : PE X e (tCls v)
  cv : ClsV v u
theorem ce_ty {T : String} {x : Str} (hg : Gl X x) (hm : X.mg x = none) (hb : bootBuiltins x = some (.type T)) (hn : x ≠ "__name__" := by decide) (hd : (x == ("__debug__" : Str)) = false := by decide) : CE X (.Name x pos) (.ty T) (.type T) :=
  ⟨PE.weak (pe_bltn (v := .ty T) hg hm hb rfl hn hd) fun _ _ _ q => q, .ty T⟩
theorem ce_own {j : Nat} {x : Str} (T : XT X.K X.mg c j x) (hg : Gl X x) (hd : (x == ("__debug__" : Str)) = false := by decide) : CE X (.Name x pos) (.ref (c.cA j)) (.ref (c.cA j)) :=
  ⟨PE.weak (pe_glob hg T.mg (v := .ref (c.cA j)) rfl hd) fun _ _ _ q => q, .own _⟩
theorem isx_of {H : Hp} {F A : AS} {k2 : Nat} {vals : List PV} {x : V} (r : R c H F (.exc k2 vals) x A) : IsX c H x k2 := by
  obtain ⟨pa, d, vs, rfl, ⟨h1, _⟩, z, _⟩ := r
  refine ⟨pa, d, rfl, h1, fun dd ed => ?_⟩
  rcases z with ⟨_, z2⟩ | ⟨d2, e2, _, h3⟩
  · rw [z2] at ed; cases ed
  · rw [e2] at ed; cases ed; exact ⟨_, h3⟩
/-- isinstance(e, C) -/
theorem e_ix1 {cE : Expr} {cv : V} {u : Value} {ks : List Nat} (A : XAll X.K X.mg c n) (G : XG X.K) (hm : X.mg "isinstance" = none) (hg : Gl X "isinstance") (C : CE X cE cv u) (hk : ∀ i, i < n → PySem.W.kitOne X.K (.ref (c.cA i)) u = some (ks.contains i)) (ho : SO X c W o oo)
    (st : starEach [o, cE] X.env = (false, eval o X.env) :: starEach [cE] X.env := by rfl) (st2 : starEach [cE] X.env = (false, eval cE X.env) :: starEach [] X.env := by rfl) (he : (backTo pos (starEach [cE] X.env)).any (·.1) = false := by rfl) :
    SE X c W (.Call (.Name "isinstance" p) [o, cE] [] pos) (eT (tPV (isaX n ks) oo)) := by
  refine PE.weak (pe_callB (cr_ix1 A G) hg hm (by decide +kernel) (pa_cons ho (pa_cons C.pe pa_nil st2) st) (by decide) (by decide) st he) fun σ H Q q => ?_
  refine tO.one (eT_bl q) fun v x y ρ1 H1 F1 A1 b g sb e ⟨a, sa, r⟩ kq p => ?_
  cases v with
  | exc k2 vals =>
    simp only [isaX] at kq
    split at kq
    · rename_i hlt
      cases kq
      exact ⟨x, cv, u, k2, _, rfl, C.cv, hlt, isx_of r, hk _ hlt, p.now g sb rfl e⟩
    · cases kq
  | non => cases kq
  | bl _ => cases kq
  | int _ => cases kq
  | str _ => cases kq
  | tup _ => cases kq
  | lst _ _ => cases kq
  | dct _ _ _ => cases kq
  | ins _ _ _ => cases kq
  | con _ => cases kq
end
end Tr
set_option Elab.async false
set_option linter.all false
set_option maxRecDepth 100000
set_option maxHeartbeats 4000000
/-! Tr.T3: isinstance(e, (C, D)); raise. -/
namespace Tr
open PySem PySem.Spec PyProof.Rows L2
section
variable {X : Cx} {c : RC} {W : WX} {k n : Nat} {o : Expr} {oo : Opd} {pos p p2 p3 pos' : Pos} {fx : Nat → Bool}
/-- classes, written in a tuple -/
structure CEs (X : Cx) (es : List Expr) (vs : List V) (us : List Value) : Prop where
  pa : PA X es (fun σ H Q => Q vs H)
  cv : Paired ClsV vs us
theorem ces_nil : CEs X [] [] [] := ⟨pa_nil, .nil⟩
theorem ces_cons {e : Expr} {es : List Expr} {v : V} {u : Value} {vs : List V} {us : List Value} (h : CE X e v u) (r : CEs X es vs us) (st : starEach (e :: es) X.env = (false, eval e X.env) :: starEach es X.env := by rfl) : CEs X (e :: es) (v :: vs) (u :: us) :=
  ⟨PA.weak (pa_cons h.pe r.pa st) fun _ _ _ q => q, .cons h.cv r.cv⟩
/-- isinstance(e, (C, D)) -/
theorem e_ixT {es : List Expr} {tk} {tp : Pos} {vs : List V} {us : List Value} {ks : List Nat} (A : XAll X.K X.mg c n) (G : XG X.K) (hm : X.mg "isinstance" = none) (hg : Gl X "isinstance") (C : CEs X es vs us) (hl : vs.length ≤ sizeLine) (hk : XA X.K c n us ks) (ho : SO X c W o oo)
    (st : starEach [o, .Tuple es tk tp] X.env = (false, eval o X.env) :: starEach [.Tuple es tk tp] X.env := by rfl) (st2 : starEach [.Tuple es tk tp] X.env = (false, eval (.Tuple es tk tp) X.env) :: starEach [] X.env := by rfl) (he : (backTo pos (starEach [.Tuple es tk tp] X.env)).any (·.1) = false := by rfl) :
    SE X c W (.Call (.Name "isinstance" p) [o, .Tuple es tk tp] [] pos) (eT (tPV (isaX n ks) oo)) := by
  refine PE.weak (pe_callB (cr_ixT A G) hg hm (by decide +kernel) (pa_cons ho (pa_cons (pe_tup C.pa) pa_nil st2) st) (by decide) (by decide) st he) fun σ H Q q => ?_
  refine tO.one (eT_bl q) fun v x y ρ1 H1 F1 A1 b g sb e ⟨a, sa, r⟩ kq pp => ?_
  refine ⟨hl, fun t ht => ?_⟩
  cases v with
  | exc k2 vals =>
    simp only [isaX] at kq
    split at kq
    · rename_i hlt
      cases kq
      obtain ⟨pa, d, rfl, h1, h2⟩ := isx_of r
      have nt : ∀ q u, H1 q = some u → q ≠ t := fun q u e z => by rw [z, ht] at e; cases e
      refine ⟨_, t, vs, us, k2, _, rfl, upd_same, C.cv, hlt, ⟨pa, d, rfl, by rw [upd_ne (nt _ _ h1)]; exact h1, fun dd ed => ?_⟩, hk _ hlt, ?_⟩
      · obtain ⟨fs, h3⟩ := h2 dd ed
        exact ⟨fs, by rw [upd_ne (nt _ _ h3)]; exact h3⟩
      · have s1 : Stp H1 F1 Emp (upd H1 t (.tup vs)) F1 Emp := Stp.newT ht
        refine pp _ _ F1 Emp b ((Stp.newT ht).drop (Sub.uni Sub.emp sb)) ((g.newT ht).sub (Sub.uni Sub.emp sb)) Dis.empl rfl (RE.step (g.sub Sub.emp) s1 e Dis.empr)
    · cases kq
  | non => cases kq
  | bl _ => cases kq
  | int _ => cases kq
  | str _ => cases kq
  | tup _ => cases kq
  | lst _ _ => cases kq
  | dct _ _ _ => cases kq
  | ins _ _ _ => cases kq
  | con _ => cases kq
/-! ### raise -/
theorem Stp.raise {H : Hp} {F a b : AS} {d : Addr} {o : HO} (hd : H d = none) : Stp H F (Uni a b) (upd H d o) (Uni F a) b := by
  have nt : ∀ q u, H q = some u → q ≠ d := fun q u e z => by rw [z, hd] at e; cases e
  refine ⟨fun p u e _ => by rw [upd_ne (nt p u e)]; exact e, fun p e => ?_, fun p h => .inl h, fun p h => h.elim .inl fun z => .inr (.inr (.inl z)), fun p h => .inr (.inr h)⟩
  by_cases z : p = d
  · rw [z]; exact hd
  · rw [upd_ne z] at e; exact e
theorem Stp.raise1 {H : Hp} {F a b : AS} : Stp H F (Uni a b) H (Uni F a) b :=
  ⟨fun p u e _ => e, fun p e => e, fun p h => .inl h, fun p h => h.elim .inl fun z => .inr (.inr (.inl z)), fun p h => .inr (.inr h)⟩
theorem Good.raise1 {H : Hp} {F a b : AS} (g : Good H F (Uni a b)) (d : Dis a b) : Good H (Uni F a) b :=
  ⟨fun p h => by
    obtain ⟨h1, o, h2, h3⟩ := g.own p (.inr h)
    exact ⟨fun z => z.elim h1 fun z => d p z h, o, h2, h3⟩, fun p h => h.elim (g.fro p) fun z => by
    obtain ⟨_, o, h2, _⟩ := g.own p (.inl z)
    exact ⟨o, h2⟩⟩
theorem Good.raise {H : Hp} {F a b : AS} {d : Addr} {o : HO} (g : Good H F (Uni a b)) (dd : Dis a b) (hd : H d = none) : Good (upd H d o) (Uni F a) b := (Good.raise1 g dd).newT hd
/-- raise C(..): C has no fields; what the arguments are does not matter -/
theorem ss_raise0 {j : Nat} {x : Str} {e : Expr} {te : TE} (D : Dk X c W k) (T : XT X.K X.mg c j x) (hmk : PMk X e (fun σ H Q => te σ H fun _ H1 => Q (.ref (c.cA j)) none H1)) {g : AF} (hg : ∀ σ H (Q : Hp → Prop), tG c W (relL c) g σ H (fun _ H1 => Q H1) → te σ H fun _ H1 => Q H1) :
    SS c W fx X (.Raise (some e) none pos) (sRaise0 j g) := by
  refine PS.weak (ps_raise D.calm D.tk hmk) fun En σ H q => ?_
  refine hg σ H _ (tS.expr (rel := relL c) (f := g) (k := fun _ ρ1 => .er ⟨j, []⟩ ρ1) q fun v xs ρ1 H1 F1 a b g1 d1 r e1 p1 => ?_)
  exact p1 _ none σ H1 F1 b (Stp.refl.drop Sub.r) (g1.sub Sub.r) ⟨rfl, by rw [if_pos rfl]⟩ e1 Keep.refl
/-- raise C('..') -/
theorem e_raiseS {j j2 : Nat} {x m : Str} {bmB : List Value} {B newId initId : String} (D : Dk X c W k) (T : XT X.K X.mg c j x) (F : ExcBaseFacts B newId initId bmB) (q : PySem.W.excIn X.K (c.cA j) bmB newId = true) (hg : Gl X x)
    (hdb : (x == ("__debug__" : Str)) = false := by decide) : SS c W fx X (.Raise (some (.Call (.Name x p) [.Constant (.str m) j2 p2] [] pos)) none pos') (sRaise0 j aNil) :=
  ss_raise0 (te := fun σ H Q => Q .non H) D T (pmk_own F q T.mg T.kp (raises_own T.sub T.ty) hg hdb) fun σ H Q h => by
    obtain ⟨ρ, F, A, g, e, p⟩ := h
    exact Post.now p g (Sub.refl _) (show relL c H F [] [] Emp from rfl) e
/-- raise C(e) -/
theorem e_raise1 {j : Nat} {x : Str} {e : Expr} {f : EF} {bmB : List Value} {B newId initId : String} (D : Dk X c W k) (T : XT X.K X.mg c j x) (F : ExcBaseFacts B newId initId bmB) (q : PySem.W.excIn X.K (c.cA j) bmB newId = true) (hg : Gl X x) (he : SE X c W e f)
    (hs : starEach [e] X.env = (false, eval e X.env) :: starEach [] X.env := by rfl) (hdb : (x == ("__debug__" : Str)) = false := by decide) : SS c W fx X (.Raise (some (.Call (.Name x p) [e] [] pos)) none pos') (sRaise0 j (aCons f aNil)) :=
  ss_raise0 (te := tEx c W f) D T (SkE.pmk_own1 F q T.mg T.kp (raises_own T.sub T.ty) hg he hs hdb) fun σ H Q h => by
    refine tG.bind (rel' := relL c) (g := fun v ρ1 => (aNil ρ1).bind fun vs ρ2 => .ok (v :: vs) ρ2) h fun v x ρ1 H1 F1 a b g d r e p => ?_
    exact Post.own p g Sub.l Sub.r d (show relL c H1 F1 [v] [x] a from Rs.one r) e
/-- what a class's own __init__ promises: its fields stand in its dict, the last one first -/
def spI (K : PySem.W.Frag) (C : Addr) (fl : List Str) : Sp := fun vs H Q _ => ∃ a ys, vs = .ref a :: ys ∧ ys.length = fl.length ∧ OexC K C ∧ H a = some (exo a C none) ∧
  ∀ dx H', H dx = none → dx ≠ a → H' = upd (upd H dx (exd dx ((fl.zip ys).reverse))) a (exo a C (some dx)) → Q .non H'
theorem rd_I1 {K : PySem.W.Frag} {C : Addr} {f : Str} {vs : List V} {H : Hp} {Q : VK} {E : XK} {D : Ends} {σ : L2.St} (hno : PySem.W.findIn K (.ref C) f = some none) (h : spI K C [f] vs H Q E) (hσ : σ = vs.map some) (hD : ∀ σ H', Q .non H' → D.nx σ H') : tOst K f (tVar 0) (tVar 1) D σ H := by
  obtain ⟨a, ys, rfl, hl, T, ha, q⟩ := h
  match ys, hl with
  | [y], _ =>
    subst hσ
    exact ⟨y, rfl, .ref a, rfl, a, C, rfl, T, hno, .inl ⟨ha, fun dx h1 h2 => hD _ _ (q dx _ h1 h2 rfl)⟩⟩
theorem rd_I2 {K : PySem.W.Frag} {C : Addr} {f f2 : Str} {vs : List V} {H : Hp} {Q : VK} {E : XK} {D : Ends} {σ : L2.St} (hno : PySem.W.findIn K (.ref C) f = some none) (hno2 : PySem.W.findIn K (.ref C) f2 = some none) (h : spI K C [f, f2] vs H Q E) (hσ : σ = vs.map some) (hD : ∀ σ H', Q .non H' → D.nx σ H') :
    tOst K f (tVar 0) (tVar 1) { D with nx := fun σ H => tOst K f2 (tVar 0) (tVar 2) D σ H } σ H := by
  obtain ⟨a, ys, rfl, hl, T, ha, q⟩ := h
  match ys, hl with
  | [y, z], _ =>
    subst hσ
    refine ⟨y, rfl, .ref a, rfl, a, C, rfl, T, hno, .inl ⟨ha, fun dx h1 h2 => ?_⟩⟩
    refine ⟨z, rfl, .ref a, rfl, a, C, rfl, T, hno2, .inr ⟨dx, [(f, y)], upd_same, by rw [upd_ne h2, upd_same], by simp, hD _ _ (q dx _ h1 h2 ?_)⟩⟩
    funext b
    by_cases hb : b = dx
    · subst hb; rw [upd_same, upd_ne h2, upd_same]; rfl
    · rw [upd_ne hb]
      by_cases hba : b = a
      · subst hba; rw [upd_same, upd_same]
      · rw [upd_ne hba, upd_ne hba, upd_ne hb, upd_ne hb]
theorem rev_zip {α β : Type} : ∀ {xs : List α} {ys : List β}, xs.length = ys.length → (xs.zip ys).reverse = xs.reverse.zip ys.reverse
  | [], [], _ => rfl
  | x :: xs, y :: ys, h => by
    have h' : xs.length = ys.length := by simpa using h
    rw [List.zip_cons_cons, List.reverse_cons, List.reverse_cons, List.reverse_cons, List.zip_append (by simpa using h'), rev_zip h']
    rfl
theorem Rs.reverse {H : Hp} {F : AS} {xs : List PV} {vs : List V} (r : Rs c H F xs vs Emp) : Rs c H F xs.reverse vs.reverse Emp := Rs.rev r
/-- raise C(e, ..): C has fields -/
theorem e_raise {j kk : Nat} {x : Str} {e : Expr} {es : List Expr} {g : AF} {fI : Addr} {fd : FuncData} {ps fl : List Str} (D : Dk X c W k) (T : XT X.K X.mg c j x) (O : OexC X.K (c.cA j)) (hF : c.cF j = fl.reverse) (hne : fl ≠ [])
    (iC : PySem.W.findIn X.K (.ref (c.cA j)) "__init__" = some (some (.ref fI))) (tI : PySem.W.typeIn X.K (.ref fI) = some (.type "function")) (F1 : FnOk X.prog X.w X.K X.mg X.base (L2.CX X.prog X.w) kk fI fd ps (spI X.K (c.cA j) fl)) (hk : kk + 1 ≤ k) (hb : Binds X.K fd ps []) (hg : Gl X x)
    (ha : SA X c W (e :: es) g) (hn : ∀ ρ vs ρ', g ρ = .ok vs ρ' → vs.length = fl.length) (hl : fl.length ≤ 1000) (hdb : (x == ("__debug__" : Str)) = false := by decide) (he : starEach (e :: es) X.env = (false, eval e X.env) :: starEach es X.env := by rfl) (hpl : (backTo pos (starEach es X.env)).any (·.1) = false := by rfl) :
    SS c W fx X (.Raise (some (.Call (.Name x p) (e :: es) [] pos)) none pos') (sRaise j g) := by
  refine PS.weak (ps_raise D.calm D.tk (pmk_oex O iC tI F1 (D.hr.mono hk) hb .nil passL hg T.mg ha hdb he hpl)) fun En σ H q => ?_
  have hq : tS c W fx (fun ρ => sOf (g ρ) fun vs ρ1 => if vs.length = fl.length then .er ⟨j, (frzs vs).reverse⟩ ρ1 else .bad) En σ H := by
    obtain ⟨ρ, F, A, gd, re, pp⟩ := q
    refine ⟨ρ, F, A, gd, re, ?_⟩
    unfold sRaise at pp
    show PostS c W fx σ H F A (sOf (g ρ) fun vs ρ1 => if vs.length = fl.length then .er ⟨j, (frzs vs).reverse⟩ ρ1 else .bad) En
    cases r : g ρ with
    | ok vs ρ1 =>
      rw [r] at pp
      rw [sOf_ok] at pp ⊢
      rw [if_pos (hn _ _ _ r)]
      exact pp
    | er x ρ1 => rw [r] at pp; exact pp
    | bad => rw [r] at pp; exact pp
  refine tS.expr (rel := relL c) (f := g) hq fun vs xs ρ1 H1 F1 a b g1 d1 r e1 p1 => ?_
  have hlen : vs.length = fl.length := by
    by_cases z : vs.length = fl.length
    · exact z
    · rw [if_neg z] at p1; exact (show False from p1).elim
  rw [if_pos hlen] at p1
  have r' : Rs c H1 F1 vs xs a := r
  have lx : xs.length = fl.length := by rw [r'.len, hlen]
  refine ⟨by omega, fun a0 h0 => ?_⟩
  refine ⟨a0, xs ++ [], by simp, by simpa using lx, O, upd_same, fun dx H' h1 h2 e2 => ?_⟩
  subst e2
  have hd1 : H1 dx = none := by rw [upd_ne h2] at h1; exact h1
  have ef : (upd (del (upd (upd (upd H1 a0 (exo a0 (c.cA j) none)) dx (exd dx ((fl.zip (xs ++ [])).reverse))) a0 (exo a0 (c.cA j) (some dx))) a0) dx (.xd ((fl.zip (xs ++ [])).reverse))) = upd H1 dx (.xd ((fl.zip (xs ++ [])).reverse)) := by
    funext q
    by_cases z : q = dx
    · subst z; rw [upd_same, upd_same]
    · rw [upd_ne z, upd_ne z]
      by_cases z2 : q = a0
      · subst z2; rw [del_same, h0]
      · rw [del_ne z2, upd_ne z2, upd_ne z, upd_ne z2]
  refine ⟨rfl, dx, (fl.zip (xs ++ [])).reverse, upd_same, by rw [upd_ne h2, upd_same], hd1, ?_⟩
  rw [ef, List.append_nil]
  have st := Stp.raise (H := H1) (F := F1) (a := a) (b := b) (o := .xd ((fl.zip xs).reverse)) hd1
  have ga : Good H1 F1 a := g1.sub Sub.l
  have sa : Stp H1 F1 a (upd H1 dx (.xd ((fl.zip xs).reverse))) (Uni F1 a) Emp := (Stp.raise (b := Emp) hd1).more (Sub.uni (Sub.refl _) Sub.emp)
  have rf : Rs c (upd H1 dx (.xd ((fl.zip xs).reverse))) (Uni F1 a) (frzs vs) xs Emp := by
    have r1 : Rs c H1 (Uni F1 a) (frzs vs) xs Emp := Rs.frz (Rs.up Sub.l r') fun q z => .inr z
    have g2 : Good H1 (Uni F1 a) Emp := (Good.raise1 g1 d1).sub Sub.emp
    exact Rs.step g2 (Stp.newT hd1) r1 Dis.empl
  refine p1 _ (some dx) σ _ (Uni F1 a) b st (Good.raise g1 d1 hd1) ⟨rfl, ?_⟩ (RE.step ga sa e1 d1.sym) Keep.refl
  have nn : ¬ (frzs vs).reverse = [] := by
    intro z
    have := congrArg List.length z
    rw [frzs_eq, List.length_reverse, List.length_map, hlen] at this
    exact hne (List.length_eq_zero_iff.mp this)
  rw [if_neg nn]
  refine ⟨dx, xs.reverse, rfl, ?_, ?_, Rs.reverse rf⟩
  · rw [frzs_eq, List.length_reverse, List.length_map, hlen, hF, List.length_reverse]
    exact Nat.le_refl _
  · show upd H1 dx _ dx = _
    rw [upd_same, hF, rev_zip lx.symm]
end
end Tr
/-! Tr: a value frozen at once; an empty dict; a list repeated. -/
set_option autoImplicit false
namespace Tr
def eFrz (f : EF) : EF := fun ρ => (f ρ).bind fun v ρ1 => .ok (frz v) ρ1
def eDct0 : EF := fun ρ => .ok (.dct true [] []) ρ
def bRep : PV → PV → Option PV
  | .lst true xs, .int k => if decide (0 ≤ k) && decide (k ≤ 1000000) && fros xs && decide (xs.length * k.toNat ≤ big) then some (.lst true (List.replicate k.toNat xs).flatten) else none
  | _, _ => none
end Tr
set_option Elab.async false
set_option linter.all false
set_option maxRecDepth 100000
set_option maxHeartbeats 4000000
/-! Tr.U: more expressions. -/
namespace Tr
open PySem PySem.Spec PyProof.Rows L2
section
variable {X : Cx} {c : RC} {W : WX} {k n : Nat} {e a b : Expr} {f : EF} {oa ob : Opd} {pos p p2 : Pos}
theorem se_frz (h : SE X c W e f) : SE X c W e (eFrz f) := PE.weak h fun σ H Q q => by
  refine tG.bind (rel' := relE c) (g := fun v ρ1 => .ok (frz v) ρ1) q fun v x ρ1 H1 F1 a1 b1 g d r re pp => ?_
  have r2 : R c H1 (Uni F1 a1) (frz v) x Emp := R.frz (R.up Sub.l r) fun q z => .inr z
  have st : Stp H1 F1 (Uni a1 b1) H1 (Uni F1 a1) (Uni Emp b1) := Stp.raise1.drop (Sub.uni Sub.emp (Sub.refl _))
  exact pp x H1 _ Emp b1 st ((Good.raise1 g d).sub (Sub.uni Sub.emp (Sub.refl _))) Dis.empl r2 (RE.up Sub.l re)
theorem se_dct0 : SE X c W (.Dict [] [] pos) eDct0 := PE.weak pe_dnewK fun σ H Q ⟨ρ, F, A, g, re, pp⟩ q hq => by
  refine pp (.ref q) _ F (fun z => z = q) A ?_ ?_ ?_ ?_ ?_
  · exact (Stp.new hq).drop (Sub.uni Sub.r Sub.l)
  · exact (g.new (o := .dK []) hq (show Mu (.dK []) from trivial)).sub (Sub.uni Sub.r Sub.l)
  · intro z e1 e2
    obtain ⟨_, o, h1, _⟩ := g.own z e2
    rw [e1, hq] at h1; cases h1
  · exact ⟨q, [], Emp, rfl, ⟨rfl, by decide⟩, upd_same, rfl, id, Sub.emp, rfl⟩
  · exact RE.step (g.sub Sub.emp) (Stp.newT hq) re Dis.empr
theorem Rs.flat {H : Hp} {F : AS} {xs : List PV} {vs : List V} (r : Rs c H F xs vs Emp) : ∀ k : Nat, Rs c H F (List.replicate k xs).flatten (List.replicate k vs).flatten Emp
  | 0 => rfl
  | k + 1 => by
    rw [List.replicate_succ, List.replicate_succ, List.flatten_cons, List.flatten_cons]
    exact (Rs.append r (Rs.flat r k) Dis.empl).mono (Sub.uni (Sub.refl _) (Sub.refl _))
theorem k_rep : K2 c rRep bRep := by
  intro v w z x y H F Q A B g rv rw' kq q
  cases v with
  | lst fl xs =>
    cases fl with
    | true =>
      cases w with
      | int i =>
        simp only [bRep] at kq
        split at kq
        · rename_i hc
          cases kq
          simp only [Bool.and_eq_true, decide_eq_true_eq] at hc
          obtain ⟨⟨⟨h1, h2⟩, h3⟩, h4⟩ := hc
          obtain ⟨pa, vs, a', rfl, l, hp, _, _, _, rs⟩ := rv
          cases (show y = _ from rw')
          have lv : vs.length = xs.length := rs.len
          refine ⟨pa, i, vs, rfl, rfl, hp, by omega, by omega, by rw [lv]; exact h4, fun t ht => ?_⟩
          exact Fin.lst q g (Rs.flat (Rs.emp rs h3) _) (by rw [List.length_flatten, List.map_replicate, List.sum_replicate_nat, Nat.mul_comm]; exact h4) ht
        · cases kq
      | _ => cases kq
    | false => cases w <;> cases kq
  | _ => cases w <;> cases kq
theorem w_rep (D : Ds X c) (ha : SO X c W a oa) (hb : SO X c W b ob) : SE X c W (.BinOp a .Mult b pos) (eP2 bRep oa ob) := se_bin op_rep k_rep ha hb
theorem Ds.suite (h : Ds X c) (a : Addr) (pn : List (Addr × Obj)) : Ds (X.suite a pn) c := ⟨h.K, h.un, h.nd, h.gd⟩
end
end Tr
set_option Elab.async false
set_option linter.all false
set_option maxRecDepth 100000
/-! Tr.Lib: all of the layer; the law's own promise, free of the classes' places. -/
namespace Tr
open PySem PySem.Spec L2
def spLaw (sem : FF) : Sp := fun xs H Q _ => ∃ (a : Addr) (ns : List Int), xs = [.ref a] ∧ (∃ o, H a = some (.frz o (.lst (ns.map V.int)))) ∧ ns.length ≤ big ∧ (∃ as, sem [.lst false (ns.map .int)] = .ok (.bl true) as) ∧ ∀ v H', v = .bl true → Q v H'
theorem spLaw_F {c : RC} {sem : FF} {xs : List V} {H : Hp} {Q : VK} {E : XK} (h : spLaw sem xs H Q E) : spF c 1 sem xs H Q E := by
  obtain ⟨a, ns, rfl, ho, hl, t, q⟩ := h
  obtain ⟨l, vs, F, A, g, r, p⟩ := head_sp (c := c) (Nat.le_refl ns.length) hl ho t
  refine ⟨l, vs, F, A, g, r, ?_⟩
  cases e : sem vs with
  | ok v vs' => rw [e] at p; exact fun x H' F' a b s g' d rv rs => q x H' (p x H' F' a b s g' d rv rs)
  | er z vs' => rw [e] at p; exact fun cls d H' F' b s g' rx rs => (p cls d H' F' b s g' rx rs).elim
  | bad => rw [e] at p; exact p
theorem FnG.law {P : Program} {w : World} {K : PySem.W.Frag} {mg : Str → Option Value} {base : Heap} {CX : CXT} {c : RC} {k : Nat} {f : Addr} {fd : FuncData} {ps : List Str} {sem : FF} (F : FnG P w K mg base CX k f fd ps (spF c 1 sem)) : FnG P w K mg base CX k f fd ps (spLaw sem) :=
  ⟨fun vs H Q E h => F.len vs H Q E (spLaw_F h), fun A gA outer s H args us vs Q E room env bind rel h => F.run A gA outer s H args us vs Q E room env bind rel (spLaw_F h)⟩
end Tr
set_option Elab.async false
set_option linter.all false
set_option autoImplicit false
/-! Tr.Ev2: the newer constructs, run by simp. -/
namespace Tr.Ev
open Tr
open PySem (Str)
variable {ρ ρ' : Env} {e : PExc} {v w : PV}
def frzR : Res PV → Res PV
  | .ok v ρ => .ok (frz v) ρ
  | .er e ρ => .er e ρ
  | .bad => .bad
@[simp] theorem eFrz_eq {f : EF} : eFrz f ρ = frzR (f ρ) := by unfold eFrz frzR; cases f ρ <;> rfl
@[simp] theorem frzR_ok : frzR (.ok v ρ) = .ok (frz v) ρ := (rfl)
@[simp] theorem eDct0_eq : eDct0 ρ = .ok (.dct true [] []) ρ := (rfl)
@[simp] theorem frz_lst {b : Bool} {xs : List PV} : frz (.lst b xs) = .lst false (frzs xs) := by rw [frz]
@[simp] theorem frz_tup {xs : List PV} : frz (.tup xs) = .tup (frzs xs) := by rw [frz]
@[simp] theorem frz_dct {b : Bool} {ks : List Key} {xs : List PV} : frz (.dct b ks xs) = .dct false ks (frzs xs) := by rw [frz]
@[simp] theorem frzs_nil : frzs [] = [] := (rfl)
@[simp] theorem frzs_cons {x : PV} {xs : List PV} : frzs (x :: xs) = frz x :: frzs xs := by rw [frzs]
@[simp] theorem fro_df {ks : List Key} {xs : List PV} : fro (.dct false ks xs) = fros xs := by rw [fro]; rfl
def raR (k : Nat) : Res (List PV) → SR
  | .ok vs ρ => .er ⟨k, (frzs vs).reverse⟩ ρ
  | .er e ρ => .er e ρ
  | .bad => .bad
def ra0 (k : Nat) : Res (List PV) → SR
  | .ok _ ρ => .er ⟨k, []⟩ ρ
  | .er e ρ => .er e ρ
  | .bad => .bad
@[simp] theorem sRaise_eq {k : Nat} {g : AF} : sRaise k g ρ = raR k (g ρ) := by unfold sRaise raR; cases g ρ <;> rfl
@[simp] theorem sRaise0_eq {k : Nat} {g : AF} : sRaise0 k g ρ = ra0 k (g ρ) := by unfold sRaise0 ra0; cases g ρ <;> rfl
@[simp] theorem raR_ok {k : Nat} {vs : List PV} : raR k (.ok vs ρ) = .er ⟨k, (frzs vs).reverse⟩ ρ := (rfl)
@[simp] theorem ra0_ok {k : Nat} {vs : List PV} : ra0 k (.ok vs ρ) = .er ⟨k, []⟩ ρ := (rfl)
@[simp] theorem doR_er {e : PExc} : doR (.er e ρ) = .er e ρ := (rfl)
@[simp] theorem retR_er {e : PExc} : retR (.er e ρ) = .er e ρ := (rfl)
@[simp] theorem setR_er {i : Nat} {e : PExc} : setR i (.er e ρ) = .er e ρ := (rfl)
@[simp] theorem siR_er {a b : SF} {e : PExc} : siR a b (.er e ρ) = .er e ρ := (rfl)
def tryR (n : Nat) (hs : List Hd) : SR → SR
  | .er e ρ => if e.cls < n then runHd hs e ρ else .bad
  | r => r
@[simp] theorem sTry_eq {n : Nat} {b : SF} {hs : List Hd} : sTry n b hs ρ = tryR n hs (b ρ) := by unfold sTry tryR; cases b ρ <;> rfl
@[simp] theorem tryR_nx {n : Nat} {hs : List Hd} : tryR n hs (.nx ρ) = .nx ρ := (rfl)
@[simp] theorem tryR_rt {n : Nat} {hs : List Hd} : tryR n hs (.rt v ρ) = .rt v ρ := (rfl)
@[simp] theorem tryR_er {n : Nat} {hs : List Hd} : tryR n hs (.er e ρ) = if e.cls < n then runHd hs e ρ else .bad := (rfl)
@[simp] theorem runHd_nil : runHd [] e ρ = .er e ρ := (rfl)
@[simp] theorem runHd_none {ks : List Nat} {s : SF} {hs : List Hd} : runHd ((ks, none, s) :: hs) e ρ = if ks.contains e.cls then suiteEnd none (s ρ) else runHd hs e ρ := (rfl)
@[simp] theorem runHd_some {ks : List Nat} {i : Nat} {s : SF} {hs : List Hd} : runHd ((ks, some i, s) :: hs) e ρ = if ks.contains e.cls then suiteEnd (some i) (s (ρ.set i (some (.exc e.cls e.vals)))) else runHd hs e ρ := (rfl)
@[simp] theorem se_nx0 : suiteEnd none (.nx ρ) = .nx ρ := (rfl)
@[simp] theorem se_nx1 {i : Nat} : suiteEnd (some i) (.nx ρ) = .nx (ρ.set i none) := (rfl)
@[simp] theorem se_rt0 : suiteEnd none (.rt v ρ) = .rt v ρ := (rfl)
@[simp] theorem se_rt1 {i : Nat} : suiteEnd (some i) (.rt v ρ) = .rt v (ρ.set i none) := (rfl)
@[simp] theorem xfld_eq {k j k' : Nat} {vs : List PV} : xfld k j (.exc k' vs) = if k' = k then vs[j]? else none := (rfl)
@[simp] theorem isaX_eq {n k : Nat} {ks : List Nat} {vs : List PV} : isaX n ks (.exc k vs) = if k < n then some (ks.contains k) else none := (rfl)
@[simp] theorem finE_eq {fx : List Bool} {as : List PV} : finE fx as e ρ = match outs fx as ρ with | some as' => .er e as' | none => .bad := (rfl)
@[simp] theorem fro_exc {k : Nat} {vs : List PV} : fro (.exc k vs) = fros vs := by rw [fro]
@[simp] theorem frz_exc {k : Nat} {vs : List PV} : frz (.exc k vs) = .exc k (frzs vs) := by rw [frz]
theorem rep_l {xs : List PV} {k : Int} (h0 : 0 ≤ k) (h1 : k ≤ 1000000) (hf : fros xs = true) (hl : xs.length * k.toNat ≤ big) : bRep (.lst true xs) (.int k) = some (.lst true (List.replicate k.toNat xs).flatten) := by
  simp only [bRep]
  rw [if_pos]
  simp [h0, h1, hf, hl]
end Tr.Ev
/-! Tr: instances of own classes, on trees. -/
set_option autoImplicit false
namespace Tr
open PySem (Str)
/-- a field: by the class's number, its place -/
abbrev Tb := List (Nat × Nat)
def fldv (tb : Tb) : PV → Option PV
  | .ins _ k vs => (tb.lookup k).bind fun j => vs[j]?
  | _ => none
def pj {β : Type} (tb : Tb) (k : PV → Option β) : PV → Option β := fun v => (fldv tb v).bind k
def pjl {β : Type} (tb : Tb) (k : PV → PV → Option β) : PV → PV → Option β := fun v w => (fldv tb v).bind fun u => k u w
def pjr {β : Type} (tb : Tb) (k : PV → PV → Option β) : PV → PV → Option β := fun v w => (fldv tb w).bind fun u => k v u
def pj2 {β : Type} (tb tc : Tb) (k : PV → PV → Option β) : PV → PV → Option β := fun v w => (fldv tb v).bind fun u => (fldv tc w).bind fun z => k u z
def putFld (j : Nat) (v : PV) (vs : List PV) : Option (List PV) := if j < vs.length then some (vs.set j v) else if j = vs.length then some (vs ++ [v]) else none
/-- x.f = e -/
def sPutF (i : Nat) (tb : Tb) (f : EF) : SF := fun ρ => sOf (f ρ) fun v ρ1 => match slot ρ1 i with
  | some (.ins true k vs) => match (tb.lookup k).bind fun j => putFld j v vs with
    | some ws => .nx (ρ1.set i (some (.ins true k ws)))
    | none => .bad
  | _ => .bad
/-- what a new instance's __init__ leaves -/
def made {α : Type} (r : FR) (k : PV → Env → Res α) (g : List PV → Env) : Res α := match r with
  | .ok .non (v :: ws) => k v (g ws)
  | .er e (_ :: ws) => .er e (g ws)
  | _ => .bad
/-- C(..) -/
def eMake (k : Nat) (sem : FF) (os : List Opd) (ds : List PV) : EF := fun ρ => (goAll os ρ).bind fun ts ρ1 => match takeAll os ts ρ1 with
  | none => .bad
  | some (vs, ρ2) => made (sem (.ins true k [] :: (vs ++ ds))) .ok fun ws => giveAll os vs ws ρ2
abbrev MT := List (Nat × FF)
def tagOf (v : Option PV) : Option Nat := match v with
  | some (.ins _ k _) => some k
  | _ => none
def recv (mt : MT) (v : Option PV) : Option FF := (tagOf v).bind fun k => mt.lookup k
/-- o.m(..): by the class of o -/
def eMeth (mt : MT) (o : Opd) (os : List Opd) (ds : List PV) : EF := fun ρ => (o.go ρ).bindB fun t ρ1 => match recv mt (o.get t ρ1) with
  | none => .bad
  | some sem => (goAll os ρ1).bind fun ts ρ2 => match takeAll (o :: os) (t :: ts) ρ2 with
    | none => .bad
    | some (vs, ρ3) => back (sem (vs ++ ds)) .ok fun ws => giveAll (o :: os) vs ws ρ3
/-- an own operator: by the class of the first operand; it raises nothing -/
def disp (mt : MT) : FF := fun as => match recv mt as.head? with
  | none => .bad
  | some sem => match sem as with
    | .er _ _ => .bad
    | r => r
/-- what a data value's type is -/
def tyS : PV → Option String
  | .non => some "NoneType" | .bl _ => some "bool" | .int _ => some "int" | .str _ => some "str"
  | .tup _ => some "tuple" | .lst _ _ => some "list" | .dct _ _ _ => some "dict"
  | _ => none
/-- what stands at the other side of an own ==: data, or an instance of a class in tg -/
def othOk (tg : List Nat) (v : PV) : Bool := match v with
  | .ins _ k _ => tg.contains k
  | v => (tyS v).isSome
/-- x == y, x an instance: a test -/
def tEqI (tg : List Nat) (mt : MT) (a b : Opd) : TF := fun ρ => (goAll [a, b] ρ).bind fun ts ρ1 => match takeAll [a, b] ts ρ1 with
  | some ([v, w], ρ2) => if othOk tg w = true then (match disp mt [v, w] with
    | .ok (.bl r) ws => .ok r (giveAll [a, b] [v, w] ws ρ2)
    | _ => .bad) else .bad
  | _ => .bad
/-- isinstance(x, C), C own: ks -/
def isaI (ks : List Nat) : PV → Option Bool
  | .ins _ k _ => some (ks.contains k)
  | .con _ => none
  | .exc .. => none
  | _ => some false
/-- an own operator's def, by the class of the first operand -/
def dispX (mt : MT) : FF := fun as => match recv mt as.head? with
  | none => .bad
  | some sem => sem as
/-- an own len: a number that is not negative; nothing is raised -/
def lenI (mt : MT) : FF := fun as => match dispX mt as with
  | .ok (.int n) ws => if decide (0 ≤ n) && decide (n < 4611686018427387904) then .ok (.int n) ws else .bad
  | _ => .bad
/-- nothing is raised -/
def noEr (sem : FF) : FF := fun as => match sem as with
  | .er _ _ => .bad
  | r => r
/-- the owned list in a field -/
def fldLst (tb : Tb) : Option PV → Option (Nat × List PV × Nat × List PV)
  | some (.ins true k vs) => match tb.lookup k with
    | some j => match vs[j]? with
      | some (.lst true xs) => some (k, vs, j, xs)
      | _ => none
    | none => none
  | _ => none
/-- a list in a field changed in place -/
def sAt (i : Nat) (tb : Tb) (g : List PV → Option (List PV)) : SF := fun ρ => match fldLst tb (slot ρ i) with
  | some (k, vs, j, xs) => match g xs with
    | some ys => .nx (ρ.set i (some (.ins true k (vs.set j (.lst true ys)))))
    | none => .bad
  | none => .bad
/-- x.f.append(y), y a name that holds nothing to be written -/
def sAppF (i y : Nat) (tb : Tb) : SF := fun ρ => match slot ρ y with
  | some v => if fro v = true then sAt i tb (fun xs => if xs.length < big then some (xs ++ [v]) else none) ρ else .bad
  | none => .bad
/-- x.f[m] = e, m a name -/
def sPutLF (i m : Nat) (tb : Tb) (f : EF) : SF := fun ρ => sOf (f ρ) fun v ρ1 => match slot ρ1 m with
  | some (.int n) => sAt i tb (fun xs => (ixN xs.length n).map fun l => xs.set l v) ρ1
  | _ => .bad
/-- del x.f[m], m a name -/
def sDelF (i m : Nat) (tb : Tb) : SF := fun ρ => match slot ρ m with
  | some (.int n) => sAt i tb (fun xs => (ixN xs.length n).map fun l => xs.eraseIdx l) ρ
  | _ => .bad
/-- zip of two tuples -/
def zipP : PV → PV → Option (List PV)
  | .tup xs, .tup ys => if fro (.tup xs) && fro (.tup ys) then some (List.zipWith (fun x y => .tup [x, y]) xs ys) else none
  | _, _ => none
def iZip (a b : Opd) : IF := op2 a b zipP
/-- isinstance(x, (T, U)) -/
def isA2 (T U : Ty) (v : PV) : Option Bool := (isA T v).bind fun a => (isA U v).bind fun b => some (a || b)
/-- how many distinct texts stand among the first i -/
def dcount (xs : List Str) : Nat → Nat
  | 0 => 0
  | i + 1 => if (xs.take i).any (· == xs.getD i Str.empty) then dcount xs i else dcount xs i + 1
theorem dcount_le (xs : List Str) : ∀ i, dcount xs i ≤ i
  | 0 => Nat.le_refl _
  | i + 1 => by
    have := dcount_le xs i
    rw [dcount]
    split <;> omega
/-- len(set(t)), t a tuple of texts -/
def fLenSetS : PV → Option PV
  | .tup xs => (allS xs).bind fun ss => if decide (ss.length ≤ 60) then some (.int (dcount ss ss.length : Nat)) else none
  | _ => none
/-- t.index(x), t a tuple of texts -/
def sIdx (x : Str) : List Str → Option Nat
  | [] => none
  | y :: ys => if y = x then some 0 else (sIdx x ys).map (· + 1)
def bIdx : PV → PV → Option PV
  | .tup xs, .str x => (allS xs).bind fun ss => (sIdx x ss).map fun j => .int (j : Nat)
  | _, _ => none
def isTup : PV → Bool
  | .tup _ => true
  | _ => false
/-- two operands, the first of a kind -/
def op2g {β : Type} (g : PV → Bool) (a b : Opd) (k : PV → PV → Option β) (ρ : Env) : Res β :=
  (a.go ρ).bind fun t ρ1 => if (a.get t ρ1).any g = true then (b.go ρ1).bind fun u ρ2 => .of ((a.get t ρ2).bind fun v => (b.get u ρ2).bind fun w => k v w) ρ2 else .bad
def eIdx (a b : Opd) : EF := op2g isTup a b bIdx
end Tr
set_option Elab.async false
set_option linter.all false
set_option maxRecDepth 100000
set_option maxHeartbeats 4000000
/-! Tr.I: instances: fields read and stored. -/
namespace Tr
open PySem PySem.Spec PyProof.Rows L2
/-- the field f of the classes in tb -/
structure FdOk (K : PySem.W.Frag) (c : RC) (tb : Tb) (f : Str) : Prop where
  ok : ∀ k j, tb.lookup k = some j → Cls K (c.cA k) ∧ NoAttr K (c.cA k) f ∧ (c.cF k)[j]? = some f ∧ (∀ i, i < j → (c.cF k)[i]? ≠ some f) ∧ (c.cF k).length < 1000
theorem fdok_nil {K : PySem.W.Frag} {c : RC} {f : Str} : FdOk K c [] f := ⟨fun k j h => by cases h⟩
theorem fdok_cons {K : PySem.W.Frag} {c : RC} {f : Str} {k j : Nat} {fs : List Str} {tb : Tb} (cl : Cls K (c.cA k)) (no : NoAttr K (c.cA k) f) (hF : c.cF k = fs) (hj : fs[j]? = some f) (hd : ∀ i, i < j → fs[i]? ≠ some f) (hl : fs.length < 1000) (r : FdOk K c tb f) : FdOk K c ((k, j) :: tb) f :=
  ⟨fun k' j' h => by
    rw [List.lookup_cons] at h
    by_cases e : k' = k
    · subst e
      simp at h
      subst h
      rw [hF]
      exact ⟨cl, no, hj, hd, hl⟩
    · rw [show (k' == k) = false by simpa using e] at h
      exact r.ok k' j' h⟩
section
variable {c : RC} {H : Hp} {F A : AS}
theorem R.insR {w : Bool} {k : Nat} {xs : List PV} {x : V} {a : AS} (r : R c H F (.ins w k xs) x a) : ∃ p dx vs b, x = .ref p ∧ xs.length ≤ (c.cF k).length ∧ H p = some (.ins (c.cA k) dx ((c.cF k).zip vs)) ∧ Sub b a ∧ Rs c H F xs vs b := by
  cases w with
  | true => obtain ⟨p, dx, vs, a', rfl, l, h, _, _, t, rs⟩ := r; exact ⟨p, dx, vs, a', rfl, l, h, t, rs⟩
  | false => obtain ⟨p, dx, vs, rfl, l, h, rs⟩ := r; exact ⟨p, dx, vs, Emp, rfl, l, h.1, Sub.emp, rs⟩
/-- the value of a field -/
theorem R.fld {tb : Tb} {f : Str} {K : PySem.W.Frag} (T : FdOk K c tb f) {v u : PV} {x : V} {a : AS} (r : R c H F v x a) (h : fldv tb v = some u) :
    ∃ p C dx fs y b, x = .ref p ∧ H p = some (.ins C dx fs) ∧ Cls K C ∧ NoAttr K C f ∧ fs.lookup f = some y ∧ Sub b a ∧ R c H F u y b := by
  cases v with
  | ins w k xs =>
    simp only [fldv] at h
    cases q : tb.lookup k with
    | none => rw [q] at h; cases h
    | some j =>
      rw [q, Option.bind_some] at h
      obtain ⟨cl, no, hj, hd, _⟩ := T.ok k j q
      obtain ⟨p, dx, vs, b, rfl, l, hp, sb, rs⟩ := r.insR
      obtain ⟨y, d, e1, s1, ry⟩ := rs.get h
      exact ⟨p, _, dx, _, y, d, rfl, hp, cl, no, by rw [lookup_zip hj hd]; exact e1, s1.trans sb, ry⟩
  | _ => cases h
end
section
variable {X : Cx} {c : RC} {W : WX} {fx : Nat → Bool} {tb tc : Tb} {f g : Str} {o a b : Expr} {i j : Nat} {pos p p2 apos : Pos} {x : Str}
/-- a field of any operand, then a one-place word -/
theorem fld_q {β μ : Type} {rel' : Hp → AS → β → μ → AS → Prop} {oo : Opd} {k : PV → Option β} {σ : L2.St} {H : Hp} {Q : μ → Hp → Prop} {r : V → Hp → Prop} (T : FdOk X.K c tb f) (q : tG c W rel' (op1 oo (pj tb k)) σ H Q)
    (fin : ∀ u y z ρ1 H1 F1 A1 bb, Good H1 F1 A1 → Sub bb A1 → RE c H1 F1 ρ1 σ bb → (∃ d, Sub d A1 ∧ R c H1 F1 u y d) → k u = some z → Post c W rel' σ H1 F1 A1 (.ok z ρ1) Q → r y H1) : tFld X.K (tO c W oo) f σ H r := by
  refine tO.one q fun v x y ρ1 H1 F1 A1 bb g sb e ⟨d, sd, rv⟩ kq pp => ?_
  unfold pj at kq
  cases h : fldv tb v with
  | none => rw [h] at kq; cases kq
  | some u =>
    rw [h, Option.bind_some] at kq
    obtain ⟨pa, C, dx, fs, w, b, rfl, hp, cl, no, hl, s1, ru⟩ := R.fld T rv h
    exact ⟨pa, C, dx, fs, w, rfl, hp, cl, no, hl, fin u w y ρ1 H1 F1 A1 bb g sb e ⟨b, s1.trans sd, ru⟩ kq pp⟩
/-- x.f, frozen -/
theorem e_fld {oo : Opd} (T : FdOk X.K c tb f) (ho : SO X c W o oo) (hb : attributeBase o f X.env (eval o X.env) = eval o X.env := by rfl) : SE X c W (.Attribute o f pos) (eP1 (pj tb onlyFro) oo) :=
  PE.weak (pe_fld ho hb) fun σ H Q q => fld_q T q fun u y z ρ1 H1 F1 A1 bb g sb e ⟨d, sd, ru⟩ kq pp => by
    unfold onlyFro at kq
    split at kq
    · rename_i hf
      cases kq
      exact Post.now pp g sb (ru.emp hf) e
    · cases kq
/-- w(x.f), a built-in -/
theorem e_callF {id : String} {y : Str} {p0 : Pos} {oo : Opd} {r : List V → Hp → VK → Prop} {k : PV → Option PV} (T : FdOk X.K c tb f) (hc : CallR X (.builtin id) r) (hk : K1 c (fun v => r [v]) k) (hg : Gl X y) (hm : X.mg y = none) (hv : bootBuiltins y = some (.builtin id)) (ho : SO X c W o oo)
    (hn : y ≠ "__name__") (hd : (y == ("__debug__" : Str)) = false)
    (st : starEach [.Attribute o f apos] X.env = (false, eval (.Attribute o f apos) X.env) :: starEach [] X.env := by rfl) (he : (backTo pos (starEach [] X.env)).any (·.1) = false := by rfl) (hb : attributeBase o f X.env (eval o X.env) = eval o X.env := by rfl) :
    SE X c W (.Call (.Name y p0) [.Attribute o f apos] [] pos) (eP1 (pj tb k) oo) :=
  PE.weak (pe_callB hc hg hm hv (pa_cons (pe_fld ho hb) pa_nil st) hn hd st he) fun σ H Q q => fld_q T q fun u y z ρ1 H1 F1 A1 bb g sb e ⟨d, sd, ru⟩ kq pp => hk u z y H1 F1 Q _ (g.sub Sub.emp) ru kq (Post.fin pp g sb e)
theorem e_tyF {Ty : String} {y : Str} {p0 : Pos} {oo : Opd} {r : List V → Hp → VK → Prop} {k : PV → Option PV} (T : FdOk X.K c tb f) (hc : CallR X (.type Ty) r) (hk : K1 c (fun v => r [v]) k) (hg : Gl X y) (hm : X.mg y = none) (hv : bootBuiltins y = some (.type Ty)) (ho : SO X c W o oo)
    (hn : y ≠ "__name__") (hd : (y == ("__debug__" : Str)) = false)
    (st : starEach [.Attribute o f apos] X.env = (false, eval (.Attribute o f apos) X.env) :: starEach [] X.env := by rfl) (he : (backTo pos (starEach [] X.env)).any (·.1) = false := by rfl) (hb : attributeBase o f X.env (eval o X.env) = eval o X.env := by rfl) :
    SE X c W (.Call (.Name y p0) [.Attribute o f apos] [] pos) (eP1 (pj tb k) oo) :=
  PE.weak (pe_callTy hc hg hm hv (pa_cons (pe_fld ho hb) pa_nil st) hn hd st he) fun σ H Q q => fld_q T q fun u y z ρ1 H1 F1 A1 bb g sb e ⟨d, sd, ru⟩ kq pp => hk u z y H1 F1 Q _ (g.sub Sub.emp) ru kq (Post.fin pp g sb e)
/-- operands that evaluate to what they are: names -/
theorem two_still {β : Type} {rel' : Hp → AS → β → PV → AS → Prop} : True := trivial
/-- two names, looked at -/
theorem nm2_q {β μ : Type} {rel' : Hp → AS → β → μ → AS → Prop} {k : PV → PV → Option β} {σ : L2.St} {H : Hp} {Q : μ → Hp → Prop} {r : V → V → Hp → Prop} (q : tG c W rel' (op2 (.nm i) (.nm j) k) σ H Q)
    (fin : ∀ v w x y z ρ1 F1 A1 bb, σ[i]? = some (some x) → σ[j]? = some (some y) → Good H F1 A1 → Sub bb A1 → RE c H F1 ρ1 σ bb → (∃ d, Sub d A1 ∧ R c H F1 v x d) → (∃ d, Sub d A1 ∧ R c H F1 w y d) → k v w = some z → Post c W rel' σ H F1 A1 (.ok z ρ1) Q → r x y H) : tVar i σ H fun x H1 => tVar j σ H1 fun y H2 => r x y H2 := by
  obtain ⟨ρ, F, A, g, e, p⟩ := q
  unfold op2 Opd.go Opd.get at p
  cases q1 : slot ρ i with
  | none => simp only [q1, Res.bind_bad] at p; exact p.elim
  | some v =>
    cases q2 : slot ρ j with
    | none => simp only [q1, q2, Res.bind_ok, Res.bind_bad] at p; exact p.elim
    | some w =>
      simp only [q1, q2, Res.bind_ok, Option.bind_some] at p
      cases q3 : k v w with
      | none => rw [q3] at p; exact p.elim
      | some z =>
        rw [q3] at p
        obtain ⟨x, b1, h1, s1, r1⟩ := e.look q1
        obtain ⟨y, b2, h2, s2, r2⟩ := e.look q2
        exact ⟨x, h1, y, h2, fin v w x y z ρ F A A h1 h2 g (Sub.refl _) e ⟨b1, s1, r1⟩ ⟨b2, s2, r2⟩ q3 p⟩
/-- x.f OP y -/
theorem fldL_q {β μ : Type} {rel' : Hp → AS → β → μ → AS → Prop} {k : PV → PV → Option β} {σ : L2.St} {H : Hp} {Q : μ → Hp → Prop} {r : V → V → Hp → Prop} (T : FdOk X.K c tb f) (q : tG c W rel' (op2 (.nm i) (.nm j) (pjl tb k)) σ H Q)
    (fin : ∀ v w x y z ρ1 F1 A1 bb, Good H F1 A1 → Sub bb A1 → RE c H F1 ρ1 σ bb → (∃ d, Sub d A1 ∧ R c H F1 v x d) → (∃ d, Sub d A1 ∧ R c H F1 w y d) → k v w = some z → Post c W rel' σ H F1 A1 (.ok z ρ1) Q → r x y H) : tFld X.K (tVar i) f σ H fun x H1 => tVar j σ H1 fun y H2 => r x y H2 := by
  obtain ⟨x, hx, y, hy, h⟩ := nm2_q (r := fun x y H => ∃ a C dx fs v, x = .ref a ∧ H a = some (.ins C dx fs) ∧ Cls X.K C ∧ NoAttr X.K C f ∧ fs.lookup f = some v ∧ r v y H) q fun v w x y z ρ1 F1 A1 bb h1 h2 g sb e ⟨d, sd, rv⟩ rw' kq pp => by
    unfold pjl at kq
    cases h : fldv tb v with
    | none => rw [h] at kq; cases kq
    | some u =>
      rw [h, Option.bind_some] at kq
      obtain ⟨pa, C, dx, fs, wv, b, rfl, hp, cl, no, hl, s1, ru⟩ := R.fld T rv h
      exact ⟨pa, C, dx, fs, wv, rfl, hp, cl, no, hl, fin u w wv y z ρ1 F1 A1 bb g sb e ⟨b, s1.trans sd, ru⟩ rw' kq pp⟩
  obtain ⟨a, C, dx, fs, v, e1, e2, e3, e4, e5, e6⟩ := h
  exact ⟨x, hx, a, C, dx, fs, v, e1, e2, e3, e4, e5, y, hy, e6⟩
/-- y OP x.f -/
theorem fldR_q {β μ : Type} {rel' : Hp → AS → β → μ → AS → Prop} {k : PV → PV → Option β} {σ : L2.St} {H : Hp} {Q : μ → Hp → Prop} {r : V → V → Hp → Prop} (T : FdOk X.K c tb f) (q : tG c W rel' (op2 (.nm i) (.nm j) (pjr tb k)) σ H Q)
    (fin : ∀ v w x y z ρ1 F1 A1 bb, Good H F1 A1 → Sub bb A1 → RE c H F1 ρ1 σ bb → (∃ d, Sub d A1 ∧ R c H F1 v x d) → (∃ d, Sub d A1 ∧ R c H F1 w y d) → k v w = some z → Post c W rel' σ H F1 A1 (.ok z ρ1) Q → r x y H) : tVar i σ H fun x H1 => tFld X.K (tVar j) f σ H1 fun y H2 => r x y H2 := by
  obtain ⟨x, hx, y, hy, h⟩ := nm2_q (r := fun x y H => ∃ a C dx fs v, y = .ref a ∧ H a = some (.ins C dx fs) ∧ Cls X.K C ∧ NoAttr X.K C f ∧ fs.lookup f = some v ∧ r x v H) q fun v w x y z ρ1 F1 A1 bb h1 h2 g sb e rv ⟨d, sd, rw'⟩ kq pp => by
    unfold pjr at kq
    cases h : fldv tb w with
    | none => rw [h] at kq; cases kq
    | some u =>
      rw [h, Option.bind_some] at kq
      obtain ⟨pa, C, dx, fs, wv, b, rfl, hp, cl, no, hl, s1, ru⟩ := R.fld T rw' h
      exact ⟨pa, C, dx, fs, wv, rfl, hp, cl, no, hl, fin v u x wv z ρ1 F1 A1 bb g sb e rv ⟨b, s1.trans sd, ru⟩ kq pp⟩
  exact ⟨x, hx, y, hy, h⟩
/-- x.f OP y.g -/
theorem fld2_q {β μ : Type} {rel' : Hp → AS → β → μ → AS → Prop} {k : PV → PV → Option β} {σ : L2.St} {H : Hp} {Q : μ → Hp → Prop} {r : V → V → Hp → Prop} (T : FdOk X.K c tb f) (T2 : FdOk X.K c tc g) (q : tG c W rel' (op2 (.nm i) (.nm j) (pj2 tb tc k)) σ H Q)
    (fin : ∀ v w x y z ρ1 F1 A1 bb, Good H F1 A1 → Sub bb A1 → RE c H F1 ρ1 σ bb → (∃ d, Sub d A1 ∧ R c H F1 v x d) → (∃ d, Sub d A1 ∧ R c H F1 w y d) → k v w = some z → Post c W rel' σ H F1 A1 (.ok z ρ1) Q → r x y H) : tFld X.K (tVar i) f σ H fun x H1 => tFld X.K (tVar j) g σ H1 fun y H2 => r x y H2 := by
  have q' : tG c W rel' (op2 (.nm i) (.nm j) (pjl tb (pjr tc k))) σ H Q := q
  refine fldL_q (r := fun x y H => ∃ a C dx fs v, y = .ref a ∧ H a = some (.ins C dx fs) ∧ Cls X.K C ∧ NoAttr X.K C g ∧ fs.lookup g = some v ∧ r x v H) T q' fun v w x y z ρ1 F1 A1 bb gg sb e rv ⟨d, sd, rw'⟩ kq pp => ?_
  unfold pjr at kq
  cases h : fldv tc w with
  | none => rw [h] at kq; cases kq
  | some u =>
    rw [h, Option.bind_some] at kq
    obtain ⟨pa, C, dx, fs, wv, b, rfl, hp, cl, no, hl, s1, ru⟩ := R.fld T2 rw' h
    exact ⟨pa, C, dx, fs, wv, rfl, hp, cl, no, hl, fin v u x wv z ρ1 F1 A1 bb gg sb e rv ⟨b, s1.trans sd, ru⟩ kq pp⟩
/-- an instance in a slot is written anew -/
theorem write_ins {H : Hp} {F : AS} {σ : L2.St} {e : AS} {ρ : Env} {i : Nat} {p dx : Addr} {a : AS} {ys : List PV} {ws : List V} {k : Nat} (g : Good H F (Uni a e)) (d : Dis a e) (re : RE c H F (ρ.set i none) σ e) (hx : σ[i]? = some (some (.ref p))) (ap : a p) {b : AS} (sb : Sub b a) (nb : ¬ b p)
    (rs : Rs c H F ys ws b) (l : ys.length ≤ (c.cF k).length) : Stp H F (Uni a e) (upd H p (.ins (c.cA k) dx ((c.cF k).zip ws))) F (Uni a e) ∧ Good (upd H p (.ins (c.cA k) dx ((c.cF k).zip ws))) F (Uni a e) ∧ RE c (upd H p (.ins (c.cA k) dx ((c.cF k).zip ws))) F (ρ.set i (some (.ins true k ys))) σ (Uni a e) := by
  have gp : Good H F (fun q => q = p) := g.sub fun q z => by rw [z]; exact .inl ap
  have sp : Stp H F (fun q => q = p) (upd H p (.ins (c.cA k) dx ((c.cF k).zip ws))) F (fun q => q = p) := Stp.put rfl
  have nD : ∀ {t : AS}, ¬ t p → Dis t (fun q => q = p) := fun n q y z => n (by rw [← z]; exact y)
  have re2 := re.step gp sp (nD fun z => d p ap z)
  have rs2 := rs.step gp sp (nD nb)
  refine ⟨Stp.put (.inl ap), g.put (.inl ap) trivial, ?_⟩
  have := RE.put re2 hx (show R c (upd H p (.ins (c.cA k) dx ((c.cF k).zip ws))) F (.ins true k ys) (.ref p) a from ⟨p, dx, ws, b, rfl, l, upd_same, ap, nb, sb, rs2⟩) d
  rwa [List.set_set] at this
theorem putF_set : ∀ {fs : List Str} {vs : List V} {j : Nat} {f : Str} {y : V}, fs[j]? = some f → (∀ i, i < j → fs[i]? ≠ some f) → j < vs.length → vs.length ≤ fs.length → putF f y (fs.zip vs) = fs.zip (vs.set j y)
  | g :: fs, v :: vs, 0, f, y, h, _, _, _ => by
    simp at h; subst h
    show putF g y ((g, v) :: fs.zip vs) = _
    unfold putF
    rw [if_pos rfl]; rfl
  | g :: fs, v :: vs, j + 1, f, y, h, n, l, l2 => by
    have ne : ¬ g = f := by have := n 0 (by omega); simpa using this
    show putF f y ((g, v) :: fs.zip vs) = _
    unfold putF
    rw [if_neg ne, putF_set (j := j) (by simpa using h) (fun i hi => by simpa using n (i + 1) (by omega)) (by simpa using l) (by simpa using l2)]
    rfl
  | _, [], _, _, _, _, _, l, _ => by simp at l
  | [], _ :: _, _, _, _, h, _, _, _ => by simp at h
theorem putF_new : ∀ {fs : List Str} {vs : List V} {f : Str} {y : V}, fs[vs.length]? = some f → (∀ i, i < vs.length → fs[i]? ≠ some f) → putF f y (fs.zip vs) = fs.zip (vs ++ [y])
  | [], vs, f, y, h, _ => by simp at h
  | g :: fs, [], f, y, h, _ => by
    simp at h; subst h
    cases fs <;> rfl
  | g :: fs, v :: vs, f, y, h, n => by
    have ne : ¬ g = f := by have := n 0 (by simp); simpa using this
    show putF f y ((g, v) :: fs.zip vs) = _
    unfold putF
    rw [if_neg ne, putF_new (fs := fs) (vs := vs) (by simpa using h) (fun i hi => by simpa using n (i + 1) (by simpa using hi))]
    rfl
/-- x.f = e -/
theorem ss_fld {e : Expr} {fe : EF} {p1 p2 : Pos} (T : FdOk X.K c tb f) (hv : PE X (.Name x p1) (tVar i)) (h : SE X c W e fe) (hs : swapsWith e (some (.Attribute (.Name x p1) f p2)) pos.line X.env = pure false := by rfl) :
    SS c W fx X (.Assign [.Attribute (.Name x p1) f p2] e pos) (sPutF i tb fe) := by
  refine PS.weak (ps_fld hv h hs) fun D σ H q => ?_
  refine tS.expr (rel := relE c) q fun v y ρ1 H1 F1 a e1 g1 d r re1 p1 => ?_
  cases q0 : slot ρ1 i with
  | none => simp only [q0] at p1; exact p1.elim
  | some u0 =>
    simp only [q0] at p1
    split at p1
    · rename_i k vs eu
      cases eu
      split at p1
      · rename_i ws hw
        obtain ⟨x1, bb, dd, k1, k2, k3, k4, k5, k6⟩ := re1.take q0
        obtain ⟨pp, dx, us, a', rfl, l0, hp, m, n, t, rs⟩ := k5
        cases qj : tb.lookup k with
        | none => rw [qj] at hw; cases hw
        | some j =>
          rw [qj, Option.bind_some] at hw
          obtain ⟨cl, no, hj, hd, hl⟩ := T.ok k j qj
          have lu : us.length = vs.length := rs.len
          have hjl : j < (c.cF k).length := (List.getElem?_eq_some_iff.mp hj).1
          have dab : Dis a a' := fun q y z => d q y (k2 q (t q z))
          have dab' : Dis a' a := dab.sym
          have gg : Good H1 F1 (Uni (Uni bb a) dd) := g1.sub (Sub.uni (Sub.uni (k2.trans Sub.r) Sub.l) (k3.trans Sub.r))
          have hdd : Dis (Uni bb a) dd := Dis.uni k4 (fun q y z => d q y (k3 q z))
          have fin : ∀ zs : List V, putF f y ((c.cF k).zip us) = (c.cF k).zip zs → (∃ b, Sub b (Uni bb a) ∧ ¬ b pp ∧ Rs c H1 F1 ws zs b) → ws.length ≤ (c.cF k).length → D.nx σ (upd H1 pp (.ins (c.cA k) dx (putF f y ((c.cF k).zip us)))) := by
            intro zs ez ⟨b, sb, nb, rz⟩ lz
            rw [ez]
            obtain ⟨s2, g2, e2⟩ := write_ins (k := k) (dx := dx) gg hdd k6 k1 (.inl m) sb nb rz lz
            exact (PostS.sub p1 (Sub.uni (Sub.uni (k2.trans Sub.r) Sub.l) (k3.trans Sub.r))) σ _ F1 _ s2 g2 e2 Keep.refl
          refine ⟨_, k1, pp, _, dx, _, rfl, hp, cl, no, ?_, ?_⟩
          · rw [List.length_zip]; omega
          · unfold putFld at hw
            split at hw
            · rename_i hlt
              cases hw
              refine fin (us.set j y) (putF_set hj hd (by omega) (by omega)) ⟨Uni a a', Sub.uni Sub.r (t.trans Sub.l), fun z => z.elim (fun z => d pp z (k2 pp m)) n, rs.setAt r dab⟩ (by rw [List.length_set]; exact l0)
            · split at hw
              · rename_i _ he
                cases hw
                refine fin (us ++ [y]) (putF_new (by rw [lu, ← he]; exact hj) (fun i hi => hd i (by omega))) ⟨Uni a' a, Sub.uni (t.trans Sub.l) Sub.r, fun z => z.elim n fun z => d pp z (k2 pp m), rs.append (Rs.one r) dab'⟩ (by rw [List.length_append, List.length_singleton]; omega)
              · cases hw
      · exact p1.elim
    · exact p1.elim
end
end Tr
set_option Elab.async false
set_option linter.all false
set_option maxRecDepth 100000
set_option maxHeartbeats 4000000
/-! Tr.I2: instances made; methods; isinstance; an own ==. -/
namespace Tr
open PySem PySem.Spec PyProof.Rows L2
section
variable {c : RC} {W : WX} {σ : L2.St} {H : Hp} {F A : AS}
theorem Stp.newI {p dx : Addr} {C : Addr} (hp : H p = none) (hd : H dx = none) (ne : dx ≠ p) : Stp H F A (upd (upd H dx (.own p)) p (.ins C dx [])) F (Uni A (fun q => q = p)) := by
  have h2 : upd H dx (.own p) p = none := by rw [upd_ne (Ne.symm ne)]; exact hp
  exact (Stp.newT hd).trans (Stp.new h2)
theorem Good.newI {p dx : Addr} {C : Addr} (g : Good H F A) (hp : H p = none) (hd : H dx = none) (ne : dx ≠ p) : Good (upd (upd H dx (.own p)) p (.ins C dx [])) F (Uni A (fun q => q = p)) := by
  have h2 : upd H dx (.own p) p = none := by rw [upd_ne (Ne.symm ne)]; exact hp
  exact (g.newT hd).new (o := .ins C dx []) h2 (show Mu (.ins C dx []) from trivial)
/-- the callee's promise, met: __init__ of a new instance -/
theorem make_ok {k : Nat} {sem : FF} {os : List Opd} {ts : List (Option PV)} {xs : List V} {dps : List PV} {dvs : List V} {a b : AS} {ρ : Env} {Q : VK} {n : Nat} (g : Good H F A) (sa : Sub a A) (sb : Sub b A) (d : Dis a b) (tm : Tmps c σ H F os ts xs a) (e : RE c H F ρ σ b)
    (hd : ∀ H F, Rs c H F dps dvs Emp) (hn : os.length + dps.length + 1 = n)
    (p : Post c W (relE c) σ H F A (match takeAll os ts ρ with | none => .bad | some (vs, ρ2) => made (sem (.ins true k [] :: (vs ++ dps))) .ok fun ws => giveAll os vs ws ρ2) Q) {x dx : Addr} (hx : H x = none) (hdx : H dx = none) (ne : dx ≠ x) :
    spF c n sem (.ref x :: (xs ++ dvs)) (upd (upd H dx (.own x)) x (.ins (c.cA k) dx [])) (fun v H2 => v = .non ∧ Q (.ref x) H2) (fun cls d H' => W cls d σ H') := by
  cases q : takeAll os ts ρ with
  | none => simp only [q] at p; exact p.elim
  | some z =>
    obtain ⟨vs, ρ2⟩ := z
    simp only [q] at p
    obtain ⟨a2, b2, s1, s2, d2, r, e2⟩ := take_ok tm e d q
    have sa2 : Sub a2 A := fun q z => (s1 q z).elim (sa q) (sb q)
    have sb2 : Sub b2 A := s2.trans sb
    have lx : xs.length = os.length := by
      have go : ∀ {os : List Opd} {ts : List (Option PV)} {xs : List V} {a : AS}, Tmps c σ H F os ts xs a → xs.length = os.length := by
        intro os
        induction os with
        | nil => intro ts xs a h; rw [h.2]; rfl
        | cons o os ih => rintro ts xs a ⟨_, _, _, _, _, _, _, e, _, _, _, _, tl⟩; rw [e, List.length_cons, List.length_cons, ih tl]
      exact go tm
    have gE : Good H F Emp := g.sub Sub.emp
    have st0 : Stp H F Emp (upd (upd H dx (.own x)) x (.ins (c.cA k) dx [])) F (Uni Emp (fun q => q = x)) := Stp.newI hx hdx ne
    have gn : Good (upd (upd H dx (.own x)) x (.ins (c.cA k) dx [])) F (Uni A (fun q => q = x)) := g.newI hx hdx ne
    have nx : ∀ {t : AS}, Sub t A → ¬ t x := fun s z => by
      obtain ⟨_, o, h, _⟩ := g.own x (s x z)
      rw [hx] at h; cases h
    have r1 : Rs c (upd (upd H dx (.own x)) x (.ins (c.cA k) dx [])) F (vs ++ dps) (xs ++ dvs) a2 := by
      have r0 := r.step gE st0 Dis.empr
      exact (Rs.append r0 (hd _ _) Dis.empr).mono fun q z => z.elim id False.elim
    have ri : R c (upd (upd H dx (.own x)) x (.ins (c.cA k) dx [])) F (.ins true k []) (.ref x) (fun q => q = x) :=
      ⟨x, dx, [], Emp, rfl, Nat.zero_le _, by rw [List.zip_nil_right]; exact upd_same, rfl, id, Sub.emp, rfl⟩
    have dxa : Dis (fun q => q = x) a2 := fun q z y => nx sa2 (by rw [← z]; exact y)
    have r3 : Rs c (upd (upd H dx (.own x)) x (.ins (c.cA k) dx [])) F (.ins true k [] :: (vs ++ dps)) (.ref x :: (xs ++ dvs)) (Uni (fun q => q = x) a2) := ⟨_, _, _, _, rfl, Sub.l, Sub.r, dxa, ri, r1⟩
    refine ⟨by rw [List.length_cons, List.length_append, lx, (hd H F).len]; exact hn, _, F, _, gn.sub (Sub.uni Sub.r (sa2.trans Sub.l)), r3, ?_⟩
    have e3 : RE c (upd (upd H dx (.own x)) x (.ins (c.cA k) dx [])) F ρ2 σ b2 := e2.step gE st0 Dis.empr
    have gb : Good (upd (upd H dx (.own x)) x (.ins (c.cA k) dx [])) F b2 := gn.sub (sb2.trans Sub.l)
    have ga : Good (upd (upd H dx (.own x)) x (.ins (c.cA k) dx [])) F (Uni (fun q => q = x) a2) := gn.sub (Sub.uni Sub.r (sa2.trans Sub.l))
    have db : Dis b2 (Uni (fun q => q = x) a2) := fun q y z => z.elim (fun z => nx sb2 (by rw [← z]; exact y)) fun z => d2 q z y
    have stA : Stp H F A (upd (upd H dx (.own x)) x (.ins (c.cA k) dx [])) F (Uni b2 (Uni (fun q => q = x) a2)) := (Stp.newI hx hdx ne).drop (Sub.uni (sb2.trans Sub.l) (Sub.uni Sub.r (sa2.trans Sub.l)))
    have later : ∀ {H' : Hp} {F' A' : AS}, Stp (upd (upd H dx (.own x)) x (.ins (c.cA k) dx [])) F (Uni (fun q => q = x) a2) H' F' A' → Good H' F' A' → Dis A' b2 ∧ Good H' F' b2 ∧ RE c H' F' ρ2 σ b2 ∧ Stp H F A H' F' (Uni b2 A') := fun s g' =>
      ⟨(s.apart gb db).sym, gb.kept s g' db, e3.step ga s db, stA.trans (s.frame (B := b2))⟩
    cases q2 : sem (.ins true k [] :: (vs ++ dps)) with
    | bad => simp only [q2, made] at p; exact p.elim
    | ok v ws =>
      simp only [q2, made] at p
      cases v with
      | non =>
        cases ws with
        | nil => exact (show False from p).elim
        | cons w0 ws =>
          intro x' H' F' a3 b3 s g3 d3 rv rw'
          obtain ⟨y, ys, b31, b32, e1, t1, t2, t3, r31, r32⟩ := rw'
          cases e1
          obtain ⟨l1, l2, l3, l4⟩ := later (s.drop (B := b3) Sub.r) (g3.sub Sub.r)
          refine ⟨rv, ?_⟩
          have e4 := give_ok (vs := vs) tm.nms r32 l3 (fun q y z => l1 q (t2 q y) z)
          refine p (.ref x) H' F' b31 (Uni b32 b2) (l4.drop ?_) ((g3.sub Sub.r).uni l2 |>.sub ?_) ?_ r31 e4
          · exact fun q y => y.elim (fun z => .inr (t1 q z)) fun z => z.elim (fun z => .inr (t2 q z)) .inl
          · exact fun q y => y.elim (fun z => .inl (t1 q z)) fun z => z.elim (fun z => .inl (t2 q z)) .inr
          · exact fun q y z => z.elim (t3 q y) (l1 q (t1 q y))
      | _ => exact (show False from p).elim
    | er z ws =>
      simp only [q2, made] at p
      cases ws with
      | nil => exact (show False from p).elim
      | cons w0 ws =>
        intro cls dd H' F' b3 s g3 rx rw'
        obtain ⟨y, ys, b31, b32, e1, t1, t2, t3, r31, r32⟩ := rw'
        cases e1
        obtain ⟨l1, l2, l3, l4⟩ := later s g3
        have e4 := give_ok (vs := vs) tm.nms r32 l3 (fun q y z => l1 q (t2 q y) z)
        exact p cls dd H' F' (Uni b32 b2) (l4.drop (Sub.uni (t2.trans Sub.r) Sub.l)) ((g3.uni l2).sub (Sub.uni (t2.trans Sub.l) Sub.r)) rx e4
end
section
variable {X : Cx} {c : RC} {W : WX} {fx : Nat → Bool} {kk j n : Nat} {f fI C : Addr} {fd : FuncData} {ps ks : List Str} {sem : FF} {dvs : List V} {dps : List PV} {ds : List Value} {x m : Str} {p pos apos : Pos} {e o : Expr} {es : List Expr} {os : List Opd} {oo : Opd} {ta : TE} {t : TA} {sp : Sp}
/-! ### C(..) -/
def tMakeS (C : Addr) (sp : Sp) (dvs : List V) (E : L2.St → XK) (t : TA) : TE := fun σ H Q => t σ H fun vs H1 => ∀ x dx, H1 x = none → H1 dx = none → dx ≠ x →
  sp (.ref x :: (vs ++ dvs)) (upd (upd H1 dx (.own x)) x (.ins C dx [])) (fun v H2 => v = .non ∧ Q (.ref x) H2) (E σ)
theorem make_guards {A : Around} {C : Addr} {us : List Value} {kw : List (Str × Value)} (h : A.guards = some []) : (A.under (.builtin "type.__call__" ⟨.ref C :: us, kw⟩)).guards = some [] := by
  first
    | exact h
    | (simp [Around.under, Code.weight, Code.isCreation, Code.isGuard, Code.isCaller, Code.frames, Code.isFrame, guardIds, h]; done)
theorem run_makeG {E : XK} {pins : List (Addr × Obj)} {σ : L2.St} {H : Hp} {s : Shared} {Q : VK} {us : List Value} {vs : List V} (M : Mk X.K C fI) (F : FnG X.prog X.w X.K X.mg X.base (L2.CX X.prog X.w) kk fI fd ps sp) (gA : X.A.guards = some []) (hr : Room (kk + 1) X.A) (hb : Binds X.K fd ps ds) (hd : Vals dvs ds)
    (hx : ∀ (pins : List (Addr × Obj)) (H : Hp) (s : Shared) (e : Value) (s' : Shared), L2.Inv X pins σ H s → L2.CX X.prog X.w X.stack H s E e s' → X.xe e s') (I : L2.Inv X pins σ H s) (r : Vals vs us)
    (h : ∀ x dx, H x = none → H dx = none → dx ≠ x → sp (.ref x :: (vs ++ dvs)) (upd (upd H dx (.own x)) x (.ins C dx [])) (fun v H2 => v = .non ∧ Q (.ref x) H2) E) :
    wpAny (model X.prog X.w) X.A (call (.ref C) us) (EP X pins σ Q) X.xe s := by
  have hq := h (s.heap.objs.size + 1) s.heap.objs.size (I.hok.fresh (Nat.le_succ _)) (I.hok.fresh (Nat.le_refl _)) (Nat.ne_of_lt (Nat.lt_succ_self _))
  have J := Inv.made (C := C) I
  have rr : Vals (V.ref (s.heap.objs.size + 1) :: (vs ++ dvs)) (Value.ref (s.heap.objs.size + 1) :: (us ++ ds)) := .cons rfl (r.append hd)
  have len : (Value.ref (s.heap.objs.size + 1) :: us ++ ds).length = ps.length := by
    have z := rr.length
    rw [F.len _ _ _ _ hq] at z
    exact z.symm
  refine wpAny_call (make_map (f := fI) I.kIn M.makes M.init (beq_iff_eq.mp M.fn) (codeAny_mono (F.run _ (make_guards gA) X.stack _ _ ⟨Value.ref (s.heap.objs.size + 1) :: us, []⟩ (Value.ref (s.heap.objs.size + 1) :: (us ++ ds)) _ _ E (hr.make C us []) (J.env0.make C us [])
    (hb _ (Value.ref (s.heap.objs.size + 1) :: us) J.kIn len) rr hq) fun y s' z => ?_))
  cases y with
  | error er => exact hx pins _ _ er s' J z
  | ok fl =>
    cases fl with
    | ret u =>
      obtain ⟨v, H', I3, rv, ev, q3⟩ := J.after z
      subst ev
      exact ⟨rv, ⟨V.ref (s.heap.objs.size + 1), H', I3, rfl, q3⟩⟩
    | next => exact z.elim
    | brk => exact z.elim
    | cont => exact z.elim
theorem pe_makeG {E : L2.St → XK} (M : Mk X.K C fI) (F : FnG X.prog X.w X.K X.mg X.base (L2.CX X.prog X.w) kk fI fd ps sp) (gA : X.A.guards = some []) (hr : Room (kk + 1) X.A) (hg : Gl X x) (hm : X.mg x = some (.ref C)) (hb : Binds X.K fd ps ds) (hd : Vals dvs ds) (hx : ∀ σ, PassesAt (L2.CX X.prog X.w) X σ (E σ))
    (ha : PA X (e :: es) t) (hdb : (x == ("__debug__" : Str)) = false := by decide) (he : starEach (e :: es) X.env = (false, eval e X.env) :: starEach es X.env := by rfl) (hpl : (backTo pos (starEach es X.env)).any (·.1) = false := by rfl) :
    PE X (.Call (.Name x p) (e :: es) [] pos) (tMakeS C sp dvs E t) :=
  ⟨fun pins s σ H Q I h => wpAny_Call_Name_kw (ld_glob I hg hm (PySem.W.callWith_K (h₀ := X.base) I.ok.mod.kin M.kp (thn (ha.run pos pins s σ H _ I h) fun us s1 ⟨vs, H1, I1, r, q⟩ => ⟨I1.kIn, run_makeG M F gA hr hb hd (hx σ) I1 r q⟩) he hpl) hdb)⟩
theorem make_q {k : Nat} (hd : ∀ H F, Rs c H F dps dvs Emp) (hn : os.length + dps.length + 1 = n) {σ : L2.St} {H : Hp} {Q : VK} (q : tEx c W (eMake k sem os dps) σ H Q) : tMakeS (c.cA k) (spF c n sem) dvs (fun σ cls d H' => W cls d σ H') (tOs c W os) σ H Q := by
  obtain ⟨ρ, F, A, gd, e, p⟩ := q
  refine tOs.next (t := Emp) gd Sub.emp (Sub.refl _) Dis.empl e p fun us xs ρ1 H1 F1 a1 b1 g1 _ d tm e1 s p1 => ?_
  intro x dx hx hdx ne
  exact make_ok g1 (Sub.l.trans Sub.r) (Sub.r.trans Sub.r) d tm e1 hd hn p1 hx hdx ne
/-- C(e, ..) -/
theorem e_make {k : Nat} (D : Dk X c W j) (M : Mk X.K (c.cA k) fI) (G : FnG X.prog X.w X.K X.mg X.base (L2.CX X.prog X.w) kk fI fd ps (spF c n sem)) (hr : kk + 1 ≤ j) (hg : Gl X x) (hm : X.mg x = some (.ref (c.cA k))) (hb : Binds X.K fd ps ds) (hd : Vals dvs ds) (hp : ∀ H F, Rs c H F dps dvs Emp)
    (ha : SOs X c W (e :: es) os) (hn : os.length + dps.length + 1 = n) (hdb : (x == ("__debug__" : Str)) = false := by decide) (he : starEach (e :: es) X.env = (false, eval e X.env) :: starEach es X.env := by rfl) (hpl : (backTo pos (starEach es X.env)).any (·.1) = false := by rfl) :
    SE X c W (.Call (.Name x p) (e :: es) [] pos) (eMake k sem os dps) :=
  PE.weak (pe_makeG (E := fun σ cls d H' => W cls d σ H') M G D.gd (D.hr.mono hr) hg hm hb hd (fun σ => passAt D.tk σ) ha hdb he hpl) fun σ H Q q => make_q hp hn q
/-! ### o.m(..) -/
def tMethS (C : Addr) (m : Str) (sp : Sp) (dvs : List V) (E : L2.St → XK) (ta : TE) (t : TA) : TE := fun σ H Q => ta σ H fun x H1 => ∃ a dx fs, x = .ref a ∧ H1 a = some (.ins C dx fs) ∧ fs.lookup m = none ∧ t σ H1 fun vs H2 => sp (x :: (vs ++ dvs)) H2 Q (E σ)
/-- how a method's call is told by the text -/
def MethTx (X : Cx) (o : Expr) (m : Str) (apos pos : Pos) (es : List Expr) (pl : Sem Bool) : Prop := eval (.Call (.Attribute o m apos) es [] pos) X.env = (do
  let ov ← eval o X.env
  standAt apos.atName
  let (f, first) ← holding [ov] (getMethod ov m pl)
  callWith pos f first (backTo pos (starEach es X.env)) (backToKw pos (keywordEach [] X.env)))
theorem pe_methG {E : L2.St → XK} {pl : Sem Bool} (he : PE X o ta) (cl : Cls X.K C) (hm : Meth X.K C m f) (F : FnG X.prog X.w X.K X.mg X.base (L2.CX X.prog X.w) kk f fd ps sp) (gA : X.A.guards = some []) (hr : Room kk X.A) (hb : Binds X.K fd ps ds) (hd : Vals dvs ds) (hx : ∀ σ, PassesAt (L2.CX X.prog X.w) X σ (E σ)) (ha : PA X (e :: es) t)
    (hst : starEach (e :: es) X.env = (false, eval e X.env) :: starEach es X.env) (hpl : (backTo pos (starEach es X.env)).any (·.1) = false) (ht : MethTx X o m apos pos (e :: es) pl) :
    PE X (.Call (.Attribute o m apos) (e :: es) [] pos) (tMethS C m sp dvs E ta t) := by
  refine ⟨fun pins s σ H Q I h => ?_⟩
  refine PySem.W.methodCall_KW (pl := pl) (thn (he.run pins s σ H _ I h) fun u s1 hh => ?_) ht
  obtain ⟨x, H1, I1, rx, a, dx, fs, rfl, ea, l, q⟩ := hh
  obtain rfl : u = Value.ref a := rx
  refine getmeth_ok I1 ea cl hm l ?_
  refine PySem.W.callWith_K (first := [.ref a]) (h₀ := X.base) I.ok.mod.kin hm.kp (thn (ha.run pos pins s1 σ H1 _ I1 q) fun us s2 ⟨vs, H2, I2, r, q2⟩ => ⟨I2.kIn, ?_⟩) hst hpl
  have r2 : Vals (V.ref a :: vs) (Value.ref a :: us) := .cons rfl r
  exact run_G (args := ⟨.ref a :: us, []⟩) (us := (.ref a :: us) ++ ds) F gA hr (fun hl => hb s2 (.ref a :: us) I2.kIn hl) (hx σ) I2 (r2.append hd) q2
theorem pe_methG0 {E : L2.St → XK} {pl : Sem Bool} (he : PE X o ta) (cl : Cls X.K C) (hm : Meth X.K C m f) (F : FnG X.prog X.w X.K X.mg X.base (L2.CX X.prog X.w) kk f fd ps sp) (gA : X.A.guards = some []) (hr : Room kk X.A) (hb : Binds X.K fd ps ds) (hd : Vals dvs ds) (hx : ∀ σ, PassesAt (L2.CX X.prog X.w) X σ (E σ)) (ht : MethTx X o m apos pos [] pl) :
    PE X (.Call (.Attribute o m apos) [] [] pos) (tMethS C m sp dvs E ta tNil) := by
  refine ⟨fun pins s σ H Q I h => ?_⟩
  refine PySem.W.methodCall_KW (pl := pl) (thn (he.run pins s σ H _ I h) fun u s1 hh => ?_) ht
  obtain ⟨x, H1, I1, rx, a, dx, fs, rfl, ea, l, q⟩ := hh
  obtain rfl : u = Value.ref a := rx
  refine getmeth_ok I1 ea cl hm l ?_
  have r2 : Vals [V.ref a] [Value.ref a] := .cons rfl .nil
  exact PySem.W.callWith_K0 (first := [.ref a]) I1.kIn hm.kp (run_G (args := ⟨[.ref a], []⟩) (us := [.ref a] ++ ds) F gA hr (fun hl => hb s1 [.ref a] I1.kIn hl) (hx σ) I1 (r2.append hd) q)
theorem lookup_no : ∀ {fs : List Str} {vs : List V} {m : Str}, m ∉ fs → (fs.zip vs).lookup m = none
  | [], _, _, _ => rfl
  | _ :: _, [], _, _ => rfl
  | g :: fs, v :: vs, m, h => by
    have h1 : (m == g) = false := by simpa using fun e : m = g => h (by rw [e]; exact List.mem_cons_self)
    rw [List.zip_cons_cons, List.lookup_cons, h1]
    exact lookup_no fun z => h (List.mem_cons_of_mem _ z)
/-- one class's method m: dps the defaults that are left -/
structure MOk (X : Cx) (c : RC) (j : Nat) (m : Str) (n : Nat) (dps : List PV) (k : Nat) (sem : FF) : Prop where
  ok : ∃ (kk : Nat) (f : Addr) (fd : FuncData) (ps : List Str) (ds : List Value) (dvs : List V), Cls X.K (c.cA k) ∧ Meth X.K (c.cA k) m f ∧ FnG X.prog X.w X.K X.mg X.base (L2.CX X.prog X.w) kk f fd ps (spF c n sem) ∧ kk ≤ j ∧ Binds X.K fd ps ds ∧ Vals dvs ds ∧ (∀ H F, Rs c H F dps dvs Emp) ∧ m ∉ c.cF k
def MsOk (X : Cx) (c : RC) (j : Nat) (m : Str) (n : Nat) (dps : List PV) (mt : MT) : Prop := ∀ k sem, mt.lookup k = some sem → MOk X c j m n dps k sem
theorem ms_nil {dps : List PV} : MsOk X c j m n dps [] := fun k sem h => by cases h
theorem ms_cons {dps : List PV} {k : Nat} {mt : MT} (h : MOk X c j m n dps k sem) (r : MsOk X c j m n dps mt) : MsOk X c j m n dps ((k, sem) :: mt) := fun k' s' e => by
  rw [List.lookup_cons] at e
  by_cases z : k' = k
  · subst z; simp at e; subst e; exact h
  · rw [show (k' == k) = false by simpa using z] at e
    exact r k' s' e
/-- behind the receiver, its class known -/
theorem recv_q {mt : MT} {σ : L2.St} {H : Hp} {Q : VK} (q : tEx c W (eMeth mt oo os dps) σ H Q) :
    ∃ k sem, mt.lookup k = some sem ∧ tO c W oo σ H fun x H1 => ∃ a dx vs, x = .ref a ∧ H1 a = some (.ins (c.cA k) dx ((c.cF k).zip vs)) ∧ ∀ (n : Nat) (dvs : List V), (∀ H F, Rs c H F dps dvs Emp) → os.length + 1 + dps.length = n → tOs c W os σ H1 fun ys H2 => spF c n sem (.ref a :: (ys ++ dvs)) H2 Q (fun cls d H' => W cls d σ H') := by
  obtain ⟨ρ, F, A, gd, e, p⟩ := q
  unfold eMeth at p
  cases q0 : oo.go ρ with
  | bad => rw [q0] at p; exact p.elim
  | er z ρ1 => rw [q0] at p; exact p.elim
  | ok t ρ1 =>
    rw [q0, Res.bindB_ok] at p
    cases q1 : tagOf (oo.get t ρ1) with
    | none => simp only [recv, q1, Option.bind_none] at p; exact p.elim
    | some k =>
      cases q2 : mt.lookup k with
      | none => simp only [recv, q1, Option.bind_some, q2] at p; exact p.elim
      | some sem =>
        simp only [recv, q1, Option.bind_some, q2] at p
        refine ⟨k, sem, q2, ?_⟩
        have p' : Post c W (relE c) σ H F A ((oo.go ρ).bind fun u ρ2 => if tagOf (oo.get u ρ2) = some k then (goAll os ρ2).bind (fun ts ρ3 => match takeAll (oo :: os) (u :: ts) ρ3 with
            | none => .bad
            | some (vs, ρ4) => back (sem (vs ++ dps)) .ok fun ws => giveAll (oo :: os) vs ws ρ4) else .bad) Q := by
          rw [q0, Res.bind_ok, if_pos q1]
          exact p
        refine tO.next (t := Emp) gd Sub.emp (Sub.refl _) Dis.empl e p' fun u x ρ2 H1 F1 a1 b1 g1 _ d tm e1 s1 p1 => ?_
        by_cases q3 : tagOf (oo.get u ρ2) = some k
        · rw [if_pos q3] at p1
          cases q4 : oo.get u ρ2 with
          | none => rw [q4] at q3; cases q3
          | some v =>
            obtain ⟨dd, sd, rv⟩ := tm.get e1 q4
            cases v with
            | ins w k' xs =>
              rw [q4] at q3
              cases q3
              obtain ⟨a, dx, vs, b, rfl, _, hp, _, _⟩ := rv.insR
              refine ⟨a, dx, vs, rfl, hp, fun n dvs hd hn => ?_⟩
              refine tOs.next (os := os) (t := a1) (b := b1) (g1.sub Sub.r) Sub.l Sub.r d e1 (Post.sub p1 Sub.r) fun us ys ρ3 H2 F2 a2 b2 g2 d1 d2 tms e2 s2 p2 => ?_
              have tm2 := tm.step (g1.sub (Sub.r.trans Sub.r)) s2 d
              have d12 : Dis a1 a2 := fun q y z => d1 q y (.inl z)
              have tmA : Tmps c σ H2 F2 (oo :: os) (u :: us) (.ref a :: ys) (Uni a1 a2) := ⟨u, us, .ref a, ys, a1, a2, rfl, rfl, Sub.l, Sub.r, d12, tm2, tms⟩
              have dd2 : Dis (Uni a1 a2) b2 := Dis.uni (fun q y z => d1 q y (.inr z)) d2
              exact call_ok (os := oo :: os) (ts := u :: us) (xs := .ref a :: ys) g2 (Sub.uni Sub.l (Sub.l.trans Sub.r)) (Sub.r.trans Sub.r) dd2 tmA e2 (hd H2 F2) (by simpa using hn) p2
            | _ => rw [q4] at q3; cases q3
        · rw [if_neg q3] at p1
          exact p1.elim
/-- o.m(e, ..) -/
theorem e_meth {mt : MT} {pl : Sem Bool} (D : Dk X c W j) (ho : SO X c W o oo) (hM : MsOk X c j m n dps mt) (hn : os.length + 1 + dps.length = n) (ha : SOs X c W (e :: es) os)
    (ht : MethTx X o m apos pos (e :: es) pl) (hst : starEach (e :: es) X.env = (false, eval e X.env) :: starEach es X.env := by rfl) (hpl : (backTo pos (starEach es X.env)).any (·.1) = false := by rfl) :
    SE X c W (.Call (.Attribute o m apos) (e :: es) [] pos) (eMeth mt oo os dps) := by
  refine ⟨fun pins s σ H Q I q => ?_⟩
  obtain ⟨k, sem, hk, h⟩ := recv_q q
  obtain ⟨kk, f, fd, ps, ds, dvs, cl, hm, G, hr, hb, hd, hp, hno⟩ := (hM k sem hk).ok
  refine (pe_methG (E := fun σ cls d H' => W cls d σ H') ho cl hm G D.gd (D.hr.mono hr) hb hd (fun σ => passAt D.tk σ) ha hst hpl ht).run pins s σ H Q I (tO.imp h fun x H1 z => ?_)
  obtain ⟨a, dx, vs, rfl, ea, z⟩ := z
  exact ⟨a, dx, _, rfl, ea, lookup_no hno, z n dvs hp hn⟩
/-- o.m() -/
theorem e_meth0 {mt : MT} {pl : Sem Bool} (D : Dk X c W j) (ho : SO X c W o oo) (hM : MsOk X c j m n dps mt) (hn : 1 + dps.length = n) (ht : MethTx X o m apos pos [] pl) :
    SE X c W (.Call (.Attribute o m apos) [] [] pos) (eMeth mt oo [] dps) := by
  refine ⟨fun pins s σ H Q I q => ?_⟩
  obtain ⟨k, sem, hk, h⟩ := recv_q q
  obtain ⟨kk, f, fd, ps, ds, dvs, cl, hm, G, hr, hb, hd, hp, hno⟩ := (hM k sem hk).ok
  refine (pe_methG0 (E := fun σ cls d H' => W cls d σ H') ho cl hm G D.gd (D.hr.mono hr) hb hd (fun σ => passAt D.tk σ) ht).run pins s σ H Q I (tO.imp h fun x H1 z => ?_)
  obtain ⟨a, dx, vs, rfl, ea, z⟩ := z
  exact ⟨a, dx, _, rfl, ea, lookup_no hno, z n dvs hp (by simpa using hn)⟩
end
end Tr
set_option Elab.async false
set_option linter.all false
set_option maxRecDepth 100000
set_option maxHeartbeats 4000000
/-! Tr.I3: isinstance of own classes; an own ==. -/
namespace Tr
open PySem PySem.Spec PyProof.Rows L2
/-- the own class k, called x -/
structure CT (K : PySem.W.Frag) (mg : Str → Option Value) (c : RC) (k : Nat) (x : Str) : Prop where
  mg : mg x = some (.ref (c.cA k))
  cl : Cls K (c.cA k)
  ca : PySem.W.findIn K (.ref (c.cA k)) "__class__" = some (some (.builtin "object.__class__"))
  mo : PySem.W.mroIn K (c.cA k) (.type "object") = some true
  ty : PySem.W.typeIn K (.ref (c.cA k)) = some (.type "type")
  is : PySem.W.isClsIn K (c.cA k) = true
theorem sub_ty (K : PySem.W.Frag) (C : Addr) {T : String} (h : (PySem.fastBuiltinMro T).isSome = true) (hn : ∀ l, PySem.fastBuiltinMro T = some l → l.all (fun v => match v with | .ref _ => false | _ => true) = true) : PySem.W.subIn K (.type T) (.ref C) = some false := by
  show (PySem.fastBuiltinMro T).map (fun l => l.contains (Value.ref C)) = some false
  cases q : PySem.fastBuiltinMro T with
  | none => rw [q] at h; cases h
  | some l =>
    have hl := hn l q
    rw [Option.map_some]
    congr 1
    rw [List.contains_eq_any_beq, List.any_eq_false]
    intro v hv e
    have := List.all_eq_true.mp hl v hv
    have e' : Value.ref C = v := beq_iff_eq.mp e
    rw [← e'] at this
    cases this
theorem tyS_ok {T : String} {v : PV} (h : tyS v = some T) (K : PySem.W.Frag) (C : Addr) : PySem.W.subIn K (.type T) (.ref C) = some false := by
  have go : ∀ T : String, T ∈ ["NoneType", "bool", "int", "str", "tuple", "list", "dict"] → PySem.W.subIn K (.type T) (.ref C) = some false := by
    intro T hT
    simp only [List.mem_cons, List.not_mem_nil, or_false] at hT
    rcases hT with rfl | rfl | rfl | rfl | rfl | rfl | rfl <;> exact sub_ty K C (by decide +kernel) (fun l hl => by
      have : PySem.fastBuiltinMro _ = some _ := hl
      revert hl
      first
        | (intro hl; have e := Option.some.inj (hl.symm.trans (by kernel_rfl : PySem.fastBuiltinMro "NoneType" = some [.type "NoneType", .type "object"])); subst e; rfl)
        | (intro hl; have e := Option.some.inj (hl.symm.trans (by kernel_rfl : PySem.fastBuiltinMro "bool" = some [.type "bool", .type "int", .type "object"])); subst e; rfl)
        | (intro hl; have e := Option.some.inj (hl.symm.trans (by kernel_rfl : PySem.fastBuiltinMro "int" = some [.type "int", .type "object"])); subst e; rfl)
        | (intro hl; have e := Option.some.inj (hl.symm.trans (by kernel_rfl : PySem.fastBuiltinMro "str" = some [.type "str", .type "object"])); subst e; rfl)
        | (intro hl; have e := Option.some.inj (hl.symm.trans (by kernel_rfl : PySem.fastBuiltinMro "tuple" = some [.type "tuple", .type "object"])); subst e; rfl)
        | (intro hl; have e := Option.some.inj (hl.symm.trans (by kernel_rfl : PySem.fastBuiltinMro "list" = some [.type "list", .type "object"])); subst e; rfl)
        | (intro hl; have e := Option.some.inj (hl.symm.trans (by kernel_rfl : PySem.fastBuiltinMro "dict" = some [.type "dict", .type "object"])); subst e; rfl))
  cases v <;> first | (cases h; done) | (cases h; exact go _ (by simp))
section
variable {c : RC} {H : Hp} {F A : AS}
theorem tyx_S {v : PV} {x : V} {T : String} (r : R c H F v x A) (h : tyS v = some T) : TyX c.K H x (.type T) := by
  refine tyx_of r ?_
  cases v <;> first | (cases h; done) | (cases h; rfl)
end
/-- own classes with their tags: x an instance of one of tg -/
def CTs (K : PySem.W.Frag) (mg : Str → Option Value) (c : RC) (tg : List Nat) : Prop := ∀ k, tg.contains k = true → ∃ x, CT K mg c k x
section
variable {X : Cx} {c : RC} {W : WX} {k : Nat} {o : Expr} {oo : Opd} {pos p p2 : Pos} {x : Str} {tg ks : List Nat}
/-- isinstance(x, C), C own; tg: the classes that instances here may have -/
def isaK (tg ks : List Nat) : PV → Option Bool
  | .ins _ k _ => if tg.contains k then some (ks.contains k) else none
  | v => if (tyS v).isSome then some false else none
theorem e_isaI (D : Ds X c) (A : CTs X.K X.mg c tg) (G : XG X.K) (T : CT X.K X.mg c k x) (hk : ∀ k', tg.contains k' = true → PySem.W.kitOne X.K (.ref (c.cA k')) (.ref (c.cA k)) = some (ks.contains k')) (hm : X.mg "isinstance" = none) (hg : Gl X "isinstance") (hgx : Gl X x) (ho : SO X c W o oo)
    (st : starEach [o, .Name x p2] X.env = (false, eval o X.env) :: starEach [.Name x p2] X.env := by rfl) (st2 : starEach [.Name x p2] X.env = (false, eval (.Name x p2) X.env) :: starEach [] X.env := by rfl) (he : (backTo pos (starEach [.Name x p2] X.env)).any (·.1) = false := by rfl) (hd : (x == ("__debug__" : Str)) = false := by decide) :
    SE X c W (.Call (.Name "isinstance" p) [o, .Name x p2] [] pos) (eT (tPV (isaK tg ks) oo)) := by
  have ce : PE X (.Name x p2) (tCls (.ref (c.cA k))) := PE.weak (pe_glob hgx T.mg (v := .ref (c.cA k)) rfl hd) fun _ _ _ q => q
  refine PE.weak (pe_callB call_isi hg hm (by decide +kernel) (pa_cons ho (pa_cons ce pa_nil st2) st) (by decide) (by decide) st he) fun σ H Q q => ?_
  refine tO.one (eT_bl q) fun v y z ρ1 H1 F1 A1 b g sb e ⟨a, sa, r⟩ kq pp => ?_
  have data : ∀ T', tyS v = some T' → isaK tg ks v = some z → (∀ w k' xs, v ≠ .ins w k' xs) → rIsi X.K [y, .ref (c.cA k)] H1 Q := fun T' ht hz hv => by
    have e0 : z = false := by
      cases v with
      | ins w k' xs => exact absurd rfl (hv w k' xs)
      | _ => first | (cases ht; done) | (simp [isaK, tyS] at hz; exact hz)
    subst e0
    refine ⟨y, .ref (c.cA k), .type T', .ref (c.cA k), false, rfl, .own _, by rw [D.K]; exact tyx_S r ht, ?_, pp.now g sb rfl e⟩
    unfold PySem.W.kitOne PySem.W.kitCls
    rw [if_neg (by simp)]
    dsimp only
    rw [if_pos (by rw [show (PySem.W.clsIn X.K (c.cA k)).isSome = true from T.is, T.ty] <;> rfl)]
    exact tyS_ok ht _ _
  cases v with
  | ins w k' xs =>
    simp only [isaK] at kq
    split at kq
    · rename_i ht
      cases kq
      obtain ⟨x', T'⟩ := A k' ht
      obtain ⟨pa, dx, vs, b', rfl, _, hp, _, _⟩ := r.insR
      exact ⟨_, .ref (c.cA k), .ref (c.cA k'), .ref (c.cA k), _, rfl, .own _, .base (.ins hp T'.cl T'.ca G.sp G.tk T'.mo), hk k' ht, pp.now g sb rfl e⟩
    · cases kq
  | non => exact data _ rfl kq fun _ _ _ z => by cases z
  | bl _ => exact data _ rfl kq fun _ _ _ z => by cases z
  | int _ => exact data _ rfl kq fun _ _ _ z => by cases z
  | str _ => exact data _ rfl kq fun _ _ _ z => by cases z
  | tup _ => exact data _ rfl kq fun _ _ _ z => by cases z
  | lst _ _ => exact data _ rfl kq fun _ _ _ z => by cases z
  | dct _ _ _ => exact data _ rfl kq fun _ _ _ z => by cases z
  | con _ => simp [isaK, tyS] at kq
  | exc _ _ => simp [isaK, tyS] at kq
end
end Tr
set_option Elab.async false
set_option linter.all false
set_option maxRecDepth 100000
set_option maxHeartbeats 4000000
/-! Tr.I4: an own ==. -/
namespace Tr
open PySem PySem.Spec PyProof.Rows L2
/-- the classes' own == -/
structure EqOk (X : Cx) (c : RC) (j : Nat) (tg : List Nat) (k : Nat) (sem : FF) : Prop where
  ok : ∃ (kk : Nat) (f : Addr) (fd : FuncData) (ps : List Str), PySem.W.findIn X.K (.ref (c.cA k)) "__eq__" = some (some (.ref f)) ∧ PySem.W.isFn X.K (.ref f) = true ∧ FnG X.prog X.w X.K X.mg X.base (L2.CX X.prog X.w) kk f fd ps (spF c 2 sem) ∧ kk ≤ j ∧ Binds X.K fd ps [] ∧
    ∀ k', tg.contains k' = true → PySem.W.notFirst X.K (c.cA k) (.ref (c.cA k')) = true
def EqsOk (X : Cx) (c : RC) (j : Nat) (tg : List Nat) (mt : MT) : Prop := ∀ k sem, mt.lookup k = some sem → EqOk X c j tg k sem
theorem eqs_nil {X : Cx} {c : RC} {j : Nat} {tg : List Nat} : EqsOk X c j tg [] := fun k sem h => by cases h
theorem eqs_cons {X : Cx} {c : RC} {j : Nat} {tg : List Nat} {k : Nat} {sem : FF} {mt : MT} (h : EqOk X c j tg k sem) (r : EqsOk X c j tg mt) : EqsOk X c j tg ((k, sem) :: mt) := fun k' s' e => by
  rw [List.lookup_cons] at e
  by_cases z : k' = k
  · subst z; simp at e; subst e; exact h
  · rw [show (k' == k) = false by simpa using z] at e
    exact r k' s' e
/-- the reading by values -/
def rEqI (X : Cx) (c : RC) (j : Nat) (tg : List Nat) : R2 := fun x y H Q => ∃ a k dx fs sem t, x = .ref a ∧ H a = some (.ins (c.cA k) dx fs) ∧ EqOk X c j tg k sem ∧ TyX X.K H y t ∧ PySem.W.notFirst X.K (c.cA k) t = true ∧
  spF c 2 sem [x, y] H (fun v H' => ∃ b, v = .bl b ∧ Q v H') (fun _ _ _ => False)
section
variable {X : Cx} {c : RC} {W : WX} {j : Nat} {tg : List Nat} {a b : Expr} {oa ob : Opd} {pos : Pos} {mt : MT}
theorem op_eqI {W' : WX} (D : Dk X c W' j) : OpR X (compareOp .Eq) (rEqI X c j tg) := by
  intro pins s σ H x y v u Q I rx ry h
  obtain ⟨pa, k, dx, fs, sem, t, rfl, ha, E, ty, hn, sp⟩ := h
  obtain ⟨kk, f, fd, ps, hs, hf, F, hr, hb, _⟩ := E.ok
  obtain rfl : v = Value.ref pa := rx
  obtain ⟨mA, J, _⟩ := ins_get I.hok ha
  obtain ⟨od, J, _⟩ := J.look
  obtain ⟨m, hF⟩ := I.fr
  obtain ⟨P, Z, pz, hne⟩ := kit_of I ry ty
  have room := D.hr.mono hr
  show wpAny (model X.prog X.w) X.A (richCompare .Eq (.ref pa) u) (EP X pins σ Q) X.xe s
  refine PySem.W.cmp_K (op := .Eq) (tb := t) D.hr.units0 hF I.ok.mod.kin J (Z.ty _ _ I.kIn pz) hn hs hf ?_
  have rr : Vals [V.ref pa, y] [Value.ref pa, u] := .cons rfl (.cons ry .nil)
  refine wpAny_mono (run_G (E := fun _ _ _ => False) (args := ⟨[.ref pa, u], []⟩) (us := [.ref pa, u]) (vs := [V.ref pa, y]) (Q := fun v H' => ∃ b, v = .bl b ∧ Q v H') F D.gd room (fun hl => by
    have := hb s [.ref pa, u] I.kIn (by simpa using hl)
    simpa using this) (fun pins' H' s' e s'' _ z => by
      obtain ⟨_, _, _, _, _, _, _, _, _, _, _, _, z⟩ := z
      exact z.elim) I rr sp) (fun r s' z => ?_) fun _ _ z => z
  obtain ⟨v', H', I', rv, ⟨b, rfl, q⟩⟩ := z
  cases (show r = Value.bool b from rv)
  exact ⟨.bl b, H', I', rfl, q⟩
theorem eq_q {σ : L2.St} {H : Hp} {Q : VK} (D : Ds X c) (A : CTs X.K X.mg c tg) (G : XG X.K) (hE : EqsOk X c j tg mt)
    (q : tTs c W (tEqI tg mt oa ob) σ H fun d H1 => Q (.bl d) H1) : tO c W oa σ H fun x H1 => tO c W ob σ H1 fun y H2 => rEqI X c j tg x y H2 Q := by
  obtain ⟨ρ, F, A0, gd, e, p⟩ := q
  unfold tEqI at p
  have := tOs.next (os := [oa, ob]) (t := Emp) gd Sub.emp (Sub.refl _) Dis.empl e p (K := fun xs H2 => ∃ x y, xs = [x, y] ∧ rEqI X c j tg x y H2 Q) fun us xs ρ1 H1 F1 a1 b1 g1 _ d tm e1 s p1 => ?_
  · refine tO.imp this fun x H1 z => tO.imp z fun y H2 z => ?_
    obtain ⟨x', y', e1, z⟩ := z
    cases e1
    exact z
  · cases q1 : takeAll [oa, ob] us ρ1 with
    | none => rw [q1] at p1; exact p1.elim
    | some z =>
      obtain ⟨vs, ρ2⟩ := z
      rw [q1] at p1
      match vs with
      | [v, w] =>
        simp only at p1
        by_cases oth : othOk tg w = true
        · rw [if_pos oth] at p1
          obtain ⟨a2, b2, s1, s2, d2, r, e2⟩ := take_ok tm e1 d q1
          obtain ⟨x, xs', bx, dx', rfl, t1, t2, t3, rx, rxs⟩ := id r
          obtain ⟨y, ys, by_, dy, rfl, t4, t5, t6, ry, rys⟩ := rxs
          obtain rfl : ys = [] := rys
          refine ⟨x, y, rfl, ?_⟩
          cases v with
          | ins wv k vals =>
            cases q3 : mt.lookup k with
            | none => simp only [disp, recv, List.head?_cons, tagOf, Option.bind_some, q3] at p1; exact p1.elim
            | some sem =>
              have E := hE k sem q3
              obtain ⟨pa, dx0, us0, b0, rfl, _, hp, _, _⟩ := rx.insR
              have ty : ∃ t, TyX X.K H1 y t ∧ PySem.W.notFirst X.K (c.cA k) t = true := by
                obtain ⟨kk, f, fd, ps, _, _, _, _, _, nf⟩ := E.ok
                have data : ∀ T', tyS w = some T' → ∃ t, TyX X.K H1 y t ∧ PySem.W.notFirst X.K (c.cA k) t = true := fun T' ht =>
                  ⟨.type T', by rw [D.K]; exact tyx_S ry ht, by unfold PySem.W.notFirst; rw [tyS_ok ht]; simp⟩
                cases w with
                | ins w2 k2 vals2 =>
                  obtain ⟨x2, T2⟩ := A k2 oth
                  obtain ⟨pb, dx2, us2, b2', rfl, _, hp2, _, _⟩ := ry.insR
                  exact ⟨.ref (c.cA k2), .base (.ins hp2 T2.cl T2.ca G.sp G.tk T2.mo), nf k2 oth⟩
                | non => exact data _ rfl
                | bl _ => exact data _ rfl
                | int _ => exact data _ rfl
                | str _ => exact data _ rfl
                | tup _ => exact data _ rfl
                | lst _ _ => exact data _ rfl
                | dct _ _ _ => exact data _ rfl
                | con _ => cases oth
                | exc _ _ => cases oth
              obtain ⟨t, ty, nf⟩ := ty
              refine ⟨pa, k, dx0, _, sem, t, rfl, hp, E, ty, nf, ?_⟩
              have p2 : Post c W relB σ H1 F1 (Uni Emp (Uni a1 b1)) (match takeAll [oa, ob] us ρ1 with | none => .bad | some (vs, ρ2) => match sem (vs ++ []) with
                | .ok (.bl r) ws => .ok r (giveAll [oa, ob] vs ws ρ2)
                | _ => .bad) (fun d H1 => Q (.bl d) H1) := by
                rw [q1]
                simp only [disp, recv, List.head?_cons, tagOf, Option.bind_some, q3, List.append_nil] at p1 ⊢
                cases q4 : sem [PV.ins wv k vals, w] with
                | ok v' ws => rw [q4] at p1; exact p1
                | er z ws => rw [q4] at p1; exact p1
                | bad => rw [q4] at p1; exact p1
              refine ⟨rfl, _, F1, a2, g1.sub (fun q z => (s1 q z).elim (fun z => .inr (.inl z)) fun z => .inr (.inr z)), r, ?_⟩
              rw [q1] at p2
              simp only [List.append_nil] at p2
              have sb2 : Sub b2 (Uni Emp (Uni a1 b1)) := s2.trans (Sub.r.trans Sub.r)
              have sa2 : Sub a2 (Uni Emp (Uni a1 b1)) := fun q z => (s1 q z).elim (fun z => .inr (.inl z)) fun z => .inr (.inr z)
              cases q4 : sem [PV.ins wv k vals, w] with
              | bad => rw [q4] at p2; exact p2.elim
              | er z ws => rw [q4] at p2; exact p2.elim
              | ok v' ws =>
                rw [q4] at p2
                cases v' with
                | bl rb =>
                  intro x' H' F' a3 b3 s3 g3 d3 rv rw'
                  have l1 : Dis (Uni a3 b3) b2 := (s3.apart (g1.sub sb2) d2.sym).sym
                  have l2 : Good H' F' b2 := (g1.sub sb2).kept s3 g3 d2.sym
                  have l3 : RE c H' F' ρ2 σ b2 := e2.step (g1.sub sa2) s3 d2.sym
                  have l4 : Stp H1 F1 (Uni Emp (Uni a1 b1)) H' F' (Uni b2 (Uni a3 b3)) := (s3.frame (B := b2)).more (Sub.uni sb2 sa2)
                  have e4 := give_ok (os := [oa, ob]) (vs := [PV.ins wv k vals, w]) (xs := [.ref pa, y]) (ys := []) tm.nms (by simpa using rw') l3 (fun q y z => l1 q (.inr y) z)
                  obtain rfl : x' = V.bl rb := rv
                  refine ⟨rb, rfl, p2 rb H' F' Emp (Uni b3 b2) (l4.drop ?_) ((g3.uni l2).sub ?_) Dis.empl rfl e4⟩
                  · exact fun q y => y.elim False.elim fun z => z.elim (fun z => .inr (.inr z)) .inl
                  · exact fun q y => y.elim False.elim fun z => z.elim (fun z => .inl (.inr z)) .inr
                | _ => exact p2.elim
          | _ => simp only [disp, recv, List.head?_cons, tagOf, Option.bind_none] at p1; exact p1.elim
        · rw [if_neg oth] at p1; exact p1.elim
      | [] => exact p1.elim
      | [_] => exact p1.elim
      | _ :: _ :: _ :: _ => exact p1.elim
/-- x == y, x an instance -/
theorem t_eqI (D : Dk X c W j) (A : CTs X.K X.mg c tg) (G : XG X.K) (hE : EqsOk X c j tg mt) (ha : SO X c W a oa) (hb : SO X c W b ob) : ST X c W (.Compare a [.Eq] [b] pos) (tEqI tg mt oa ob) :=
  PT.weak (pt_cmpR (op_eqI D) ha hb (nomark _)) fun σ H Q q => by
    have q' : tTs c W (tEqI tg mt oa ob) σ H fun d H1 => (fun v H2 => ∃ k, v = V.bl k ∧ Q k H2) (V.bl d) H1 := q.imp fun d H1 z => ⟨d, rfl, z⟩
    exact eq_q (Q := fun v H2 => ∃ k, v = V.bl k ∧ Q k H2) D.s A G hE q'
theorem e_eqI (D : Dk X c W j) (A : CTs X.K X.mg c tg) (G : XG X.K) (hE : EqsOk X c j tg mt) (ha : SO X c W a oa) (hb : SO X c W b ob) : SE X c W (.Compare a [.Eq] [b] pos) (eT (tEqI tg mt oa ob)) :=
  PE.weak (pe_cmpR (op_eqI D) ha hb (nomark _)) fun σ H Q q => eq_q D.s A G hE (eT_bl q)
end
end Tr
set_option Elab.async false
set_option linter.all false
set_option maxRecDepth 100000
set_option maxHeartbeats 4000000
/-! Tr.I5: own len, x[i], x[i] = v. -/
namespace Tr
open PySem PySem.Spec PyProof.Rows L2
section
variable {X : Cx} {c : RC} {W : WX} {fx : Nat → Bool} {j n kk : Nat} {a b : Expr} {oa ob : Opd} {pos p : Pos} {mt : MT} {f : Addr} {fd : FuncData} {ps : List Str} {sp : Sp}
/-- the class behind a promise by class -/
theorem spF_disp {xs : List V} {H : Hp} {Q : VK} {E : XK} (h : spF c n (dispX mt) xs H Q E) : ∃ k sem pa dx fs xs', mt.lookup k = some sem ∧ xs = .ref pa :: xs' ∧ H pa = some (.ins (c.cA k) dx fs) ∧ spF c n sem xs H Q E := by
  obtain ⟨hl, vs, F, A, g, r, p⟩ := h
  cases vs with
  | nil => exact (show False from p).elim
  | cons v vs =>
    cases v with
    | ins w k vals =>
      cases q : mt.lookup k with
      | none => simp only [dispX, recv, List.head?_cons, tagOf, Option.bind_some, q] at p
      | some sem =>
        simp only [dispX, recv, List.head?_cons, tagOf, Option.bind_some, q] at p
        obtain ⟨x, xs', b1, d1, rfl, s1, s2, s3, rx, rs⟩ := id r
        obtain ⟨pa, dx, us, b0, rfl, _, hp, _, _⟩ := rx.insR
        exact ⟨k, sem, pa, dx, _, xs', q, rfl, hp, hl, _, F, A, g, r, p⟩
    | _ => exact (show False from p).elim
theorem spF_noEr {sem : FF} {xs : List V} {H : Hp} {Q : VK} {E : XK} (h : spF c n (noEr sem) xs H Q E) : spF c n sem xs H Q (fun _ _ _ => False) := by
  obtain ⟨hl, vs, F, A, g, r, p⟩ := h
  refine ⟨hl, vs, F, A, g, r, ?_⟩
  unfold noEr at p
  cases q : sem vs with
  | ok v ws => simp only [q] at p; exact p
  | er z ws => simp only [q] at p
  | bad => simp only [q] at p
theorem spF_imp {sem : FF} {xs : List V} {H : Hp} {Q Q' : VK} {E : XK} (h : spF c n sem xs H Q E) (k : ∀ v H', Q v H' → Q' v H') : spF c n sem xs H Q' E := by
  obtain ⟨hl, vs, F, A, g, r, p⟩ := h
  refine ⟨hl, vs, F, A, g, r, ?_⟩
  cases q : sem vs with
  | ok v ws => rw [q] at p; exact fun x H' F' a b s g' d rv rs => k _ _ (p x H' F' a b s g' d rv rs)
  | er z ws => rw [q] at p; exact p
  | bad => rw [q] at p; exact p
/-- a def called around the same frames -/
theorem run_GA {E : XK} {A' : Around} {pins : List (Addr × Obj)} {σ : L2.St} {H : Hp} {s : Shared} {Q : VK} {us : List Value} {vs : List V} (F : FnG X.prog X.w X.K X.mg X.base (L2.CX X.prog X.w) kk f fd ps sp) (gA : A'.guards = some []) (fr : A'.frames = X.A.frames) (hr : Room kk A')
    (hb : Binds X.K fd ps []) (hx : PassesAt (L2.CX X.prog X.w) X σ E) (I : L2.Inv X pins σ H s) (r : Vals vs us) (h : sp vs H Q E) : wpAny (model X.prog X.w) A' (call (.ref f) us) (EP X pins σ Q) X.xe s := by
  have hl : us.length = ps.length := by rw [← r.length]; exact F.len _ _ _ _ h
  have e0 : Env0 X.prog X.w X.K X.mg X.base A' X.stack s H := by
    have e := I.env0
    exact ⟨by rw [fr]; exact e.frames, e.mod, e.bs, e.bsz, e.funs, e.frf, e.hok, e.bare⟩
  have hbt : BindsTo s fd ⟨us, []⟩ (ps.zip us) := by
    have := hb s us I.kIn (by simpa using hl)
    simpa using this
  refine wpAny_call (codeAny_mono (F.run A' gA X.stack s H ⟨us, []⟩ us vs Q E hr e0 hbt r h) fun r s' hq => ?_)
  cases r with
  | error e => exact hx pins H s e s' I hq
  | ok fl =>
    cases fl with
    | ret u => exact I.after hq
    | next => exact hq.elim
    | brk => exact hq.elim
    | cont => exact hq.elim
/-- one class's own operator nm -/
structure OpOk (X : Cx) (c : RC) (j : Nat) (nm : Str) (n : Nat) (k : Nat) (sem : FF) : Prop where
  ok : ∃ (kk : Nat) (f : Addr) (fd : FuncData) (ps : List Str), PySem.W.findIn X.K (.ref (c.cA k)) nm = some (some (.ref f)) ∧ PySem.W.isFn X.K (.ref f) = true ∧ PySem.W.fnIn X.K f = true ∧ PySem.W.noSeq X.K (c.cA k) = true ∧ FnG X.prog X.w X.K X.mg X.base (L2.CX X.prog X.w) kk f fd ps (spF c n sem) ∧ kk + 1 ≤ j ∧ Binds X.K fd ps []
def OpsOk (X : Cx) (c : RC) (j : Nat) (nm : Str) (n : Nat) (mt : MT) : Prop := ∀ k sem, mt.lookup k = some sem → OpOk X c j nm n k sem
theorem ops_nil {nm : Str} : OpsOk X c j nm n [] := fun k sem h => by cases h
theorem ops_cons {nm : Str} {k : Nat} {sem : FF} {mt : MT} (h : OpOk X c j nm n k sem) (r : OpsOk X c j nm n mt) : OpsOk X c j nm n ((k, sem) :: mt) := fun k' s' e => by
  rw [List.lookup_cons] at e
  by_cases z : k' = k
  · subst z; simp at e; subst e; exact h
  · rw [show (k' == k) = false by simpa using z] at e
    exact r k' s' e
theorem inst_at {pins : List (Addr × Obj)} {σ : L2.St} {H : Hp} {s : Shared} {pa C dx : Addr} {fs : List (Str × V)} (I : L2.Inv X pins σ H s) (ha : H pa = some (.ins C dx fs)) : ∃ ox od, PySem.W.InstAt s.heap pa ox C (some od) := by
  obtain ⟨mA, J, _⟩ := ins_get I.hok ha
  obtain ⟨od, J, _⟩ := J.look
  exact ⟨_, _, J⟩
theorem no_passes {σ : L2.St} : PassesAt (L2.CX X.prog X.w) X σ (fun _ _ _ => False) := fun pins H s e s' _ z => by
  obtain ⟨_, _, _, _, _, _, _, _, _, _, _, _, z⟩ := z
  exact z.elim
/-- x[y], x an instance -/
theorem e_getI (D : Dk X c W j) (hO : OpsOk X c j "__getitem__" 2 mt) (ha : SO X c W a oa) (hb : SO X c W b ob) (hsl : ∀ (x i : Value), subscripted b true x i = runValue (.builtin "lifetime.subscript" ⟨[x, i], []⟩) := by intro _ _; rfl) :
    SE X c W (.Subscript a b pos) (eCall (dispX mt) [oa, ob] []) := by
  refine ⟨fun pins s σ H Q I q => ?_⟩
  have q1 := call_q (n := 2) (dvs := []) (dps := []) (fun _ _ => (rfl : ([] : List V) = [])) rfl q
  refine Subscript_ (binT ha hb I q1 fun v u s2 x y H2 I2 rx ry q2 => ?_)
  have q3 : spF c 2 (dispX mt) [x, y] H2 Q _ := q2
  obtain ⟨k, sem, pa, dx, fs, xs', hk, ex, hp, sp⟩ := spF_disp q3
  cases ex
  obtain ⟨kk, f, fd, ps, hs, hf, hfn, _, F, hr, hbd⟩ := (hO k sem hk).ok
  obtain rfl : v = Value.ref pa := rx
  obtain ⟨ox, od, J⟩ := inst_at I2 hp
  obtain ⟨m, hF⟩ := I2.fr
  have rr : Vals [V.ref pa, y] [Value.ref pa, u] := .cons rfl (.cons ry .nil)
  exact PySem.W.sub_K hF I2.ok.mod.kin J hs hfn hf (run_GA F (show X.A.in1.guards = some [] from D.gd) rfl (D.hr.mono hr).in1 hbd (passAt D.tk σ) I2 rr sp) (hsl _ _)
/-- len(x), x an instance -/
def rLenI (X : Cx) (c : RC) (j : Nat) : List V → Hp → VK → Prop := fun xs H Q => ∃ k sem pa dx fs, OpOk X c j "__len__" 1 k sem ∧ xs = [.ref pa] ∧ H pa = some (.ins (c.cA k) dx fs) ∧ spF c 1 sem xs H (fun v H' => ∃ n : Int, v = .int n ∧ 0 ≤ n ∧ n < 4611686018427387904 ∧ Q (.int n) H') (fun _ _ _ => False)
theorem cr_lenI {W' : WX} (D : Dk X c W' j) : CallR X (.builtin "len") (rLenI X c j) := by
  intro pins s σ H xs us Q I r h
  obtain ⟨k, sem, pa, dx, fs, O, rfl, hp, sp⟩ := h
  obtain ⟨kk, f, fd, ps, hs, hf, _, _, F, hr, hbd⟩ := O.ok
  obtain ⟨u, rfl, rfl⟩ := vals1 r
  obtain ⟨ox, od, J⟩ := inst_at I hp
  obtain ⟨m, hF⟩ := I.fr
  have rr : Vals [V.ref pa] [Value.ref pa] := .cons rfl .nil
  refine PySem.W.len_K hF I.ok.mod.kin J hs hf (wpAny_mono (run_GA F (show X.A.in1.guards = some [] from D.gd) rfl (D.hr.mono hr).in1 hbd no_passes I rr sp) (fun r s' z => ?_) fun _ _ z => z)
  obtain ⟨v, H', I', rv, ⟨n, rfl, n0, n1, q⟩⟩ := z
  obtain ⟨t, rfl⟩ := rv
  exact ⟨⟨n0, by omega⟩, .int n, H', I'.tok _, ⟨_, rfl⟩, q⟩
theorem lenI_q {xs : List V} {H : Hp} {Q : VK} {E : XK} (h : spF c 1 (lenI mt) xs H Q E) : spF c 1 (dispX mt) xs H (fun v H' => ∃ n : Int, v = .int n ∧ 0 ≤ n ∧ n < 4611686018427387904 ∧ Q (.int n) H') (fun _ _ _ => False) := by
  obtain ⟨hl, vs, F, A, g, r, p⟩ := h
  refine ⟨hl, vs, F, A, g, r, ?_⟩
  unfold lenI at p
  cases q : dispX mt vs with
  | ok v ws =>
    rw [q] at p
    cases v with
    | int m =>
      simp only at p
      by_cases hc : (0 ≤ m ∧ m < 4611686018427387904)
      · rw [if_pos (by simpa using hc)] at p
        intro x H' F' a b s g' d rv rs
        obtain rfl : x = V.int m := rv
        exact ⟨m, rfl, hc.1, hc.2, p _ H' F' a b s g' d rfl rs⟩
      · rw [if_neg (by simpa using hc)] at p
        exact (show False from p).elim
    | _ => exact (show False from p).elim
  | er z ws => rw [q] at p; exact (show False from p).elim
  | bad => rw [q] at p; exact (show False from p).elim
theorem e_lenI {p0 : Pos} (D : Dk X c W j) (hO : OpsOk X c j "__len__" 1 mt) (hm : X.mg "len" = none) (hg : Gl X "len") (ha : SO X c W a oa) (st : starEach [a] X.env = (false, eval a X.env) :: starEach [] X.env := by rfl) (he : (backTo pos (starEach [] X.env)).any (·.1) = false := by rfl) :
    SE X c W (.Call (.Name "len" p0) [a] [] pos) (eCall (lenI mt) [oa] []) :=
  PE.weak (pe_callB (cr_lenI D) hg hm (by decide +kernel) (pa_cons ha pa_nil st) (by decide) (by decide) st he) fun σ H Q q => by
    have q1 := call_q (n := 1) (dvs := []) (dps := []) (fun _ _ => (rfl : ([] : List V) = [])) rfl q
    refine tO.imp (show tO c W oa σ H fun x H1 => spF c 1 (lenI mt) ([x] ++ []) H1 Q _ from q1) fun x H1 z => ?_
    rw [List.append_nil] at z
    have z2 := lenI_q z
    obtain ⟨k, sem, pa, dx, fs, xs', hk, ex, hp, sp⟩ := spF_disp z2
    cases ex
    exact ⟨k, sem, pa, dx, fs, hO k sem hk, rfl, hp, sp⟩
/-- x[y] = e, x an instance; nothing is raised -/
def rSetI (X : Cx) (c : RC) (j : Nat) : TSet := fun o i v H Q => ∃ k sem pa dx fs, OpOk X c j "__setitem__" 3 k sem ∧ o = .ref pa ∧ H pa = some (.ins (c.cA k) dx fs) ∧ spF c 3 sem [o, i, v] H (fun _ H' => Q H') (fun _ _ _ => False)
theorem set_I {W' : WX} (D : Dk X c W' j) : PSet X (rSetI X c j) := by
  intro pins s σ H o i v ov iv u Q I ro ri rv h
  obtain ⟨k, sem, pa, dx, fs, O, rfl, hp, sp⟩ := h
  obtain ⟨kk, f, fd, ps, hs, hf, _, hq, F, hr, hbd⟩ := O.ok
  obtain rfl : ov = Value.ref pa := ro
  obtain ⟨ox, od, J⟩ := inst_at I hp
  obtain ⟨m, hF⟩ := I.fr
  have rr : Vals [V.ref pa, i, v] [Value.ref pa, iv, u] := .cons rfl (.cons ri (.cons rv .nil))
  refine PySem.W.ksp_setItem hF I.ok.mod.kin J hq hs hf (wpAny_mono (run_GA (Q := fun _ H' => Q H') F D.gd rfl (D.hr.mono (by omega)) hbd no_passes I rr sp) (fun r s' z => ?_) fun _ _ z => z)
  obtain ⟨v', H', I', _, q⟩ := z
  exact ⟨H', I', q⟩
theorem perm3 : PermOk 3 [1, 2, 0] [2, 0, 1] := by
  refine ⟨by decide, by decide, by decide⟩
/-- its function: e, then x, then y -/
def sPutI (mt : MT) (i : Nat) (g f : EF) : SF := sDo (eCall (permF [1, 2, 0] [2, 0, 1] (noEr (dispX mt))) [.ev f, .nm i, .ev g] [])
theorem ss_putI {x : Str} {e ek : Expr} {fe fk : EF} {i : Nat} {p1 tp : Pos} (D : Dk X c W j) (hO : OpsOk X c j "__setitem__" 3 mt) (hv : PE X (.Name x p1) (tVar i)) (h : SE X c W e fe) (hk : SE X c W ek fk)
    (ha : ∀ v, assign (.Subscript (.Name x p1) ek tp) X.env v = (do
      let ov ← holding [v] (eval (.Name x p1) X.env)
      let iv ← holding [v, ov] (eval ek X.env)
      standAt tp
      holding [v, ov, iv] (setItem ov iv v)
      release [v, ov, iv] []) := by intro _; rfl)
    (hs : swapsWithSole [.Subscript (.Name x p1) ek tp] e pos.line X.env = pure false := by rfl) (hw : swappedStores [.Subscript (.Name x p1) ek tp] e X.env = pure none := by rfl)
    (h1 : (assignEach [.Subscript (.Name x p1) ek tp] X.env).map (·.2) = [assign (.Subscript (.Name x p1) ek tp) X.env] := by rfl) :
    SS c W fx X (.Assign [.Subscript (.Name x p1) ek tp] e pos) (sPutI mt i fk fe) := by
  refine PS.weak (ps_asg h (pg_sub hv hk (set_I D) ha) hs hw h1) fun En σ H q => ?_
  have q0 : tEx c W (eCall (permF [1, 2, 0] [2, 0, 1] (noEr (dispX mt))) [.ev fe, .nm i, .ev fk] []) σ H (fun _ H1 => En.nx σ H1) := by
    refine tS.expr (rel := relE c) (k := fun _ ρ1 => .nx ρ1) q fun v y ρ1 H1 F1 a1 e1 g1 d r re1 p1 => ?_
    exact p1 σ H1 F1 e1 (Stp.refl.drop Sub.r) (g1.sub Sub.r) re1 Keep.refl
  have q1 := call_q (n := 3) (dvs := []) (dps := []) (fun _ _ => (rfl : ([] : List V) = [])) rfl q0
  refine tG.imp (show tEx c W fe σ H fun y H1 => tVar i σ H1 fun x H2 => tEx c W fk σ H2 fun z H3 => spF c 3 (permF [1, 2, 0] [2, 0, 1] (noEr (dispX mt))) ([y, x, z] ++ []) H3 (fun _ H1 => En.nx σ H1) (fun cls d H' => W cls d σ H') from q1) fun y H1 hy => ?_
  obtain ⟨xv, hx, hy⟩ := hy
  refine ⟨xv, hx, tG.imp hy fun z H3 hz => ?_⟩
  rw [List.append_nil] at hz
  have hz2 := spF_noEr (spF_perm perm3 hz)
  have hz3 : spF c 3 (dispX mt) [xv, z, y] H3 (fun _ H1 => En.nx σ H1) (fun _ _ _ => False) := hz2
  obtain ⟨k, sem, pa, dx, fs, xs', hk', ex, hp, sp⟩ := spF_disp hz3
  cases ex
  exact ⟨k, sem, pa, dx, fs, hO k sem hk', rfl, hp, sp⟩
end
end Tr
set_option Elab.async false
set_option linter.all false
set_option maxRecDepth 100000
set_option maxHeartbeats 4000000
/-! Tr.I6: a list in a field changed in place. -/
namespace Tr
open PySem PySem.Spec PyProof.Rows L2
theorem set_same {α : Type} : ∀ {xs : List α} {i : Nat} {x : α}, xs[i]? = some x → xs.set i x = xs
  | [], _, _, h => by simp at h
  | y :: ys, 0, x, h => by simp at h; rw [h]; rfl
  | y :: ys, i + 1, x, h => by rw [List.set_cons_succ, set_same (by simpa using h)]
theorem fldLst_some {tb : Tb} {v : Option PV} {k j : Nat} {vs xs : List PV} (h : fldLst tb v = some (k, vs, j, xs)) : v = some (.ins true k vs) ∧ tb.lookup k = some j ∧ vs[j]? = some (.lst true xs) := by
  unfold fldLst at h
  split at h
  · split at h
    · split at h
      · cases h; exact ⟨rfl, by assumption, by assumption⟩
      · cases h
    · cases h
  · cases h
theorem write_fldL {K : PySem.W.Frag} {c : RC} {tb : Tb} {f : Str} {H : Hp} {F a x e : AS} {ρ : Env} {σ : L2.St} {i j k : Nat} {vs xs : List PV} {p0 : V} (T : FdOk K c tb f) (hk : tb.lookup k = some j)
    (g : Good H F (Uni (Uni a x) e)) (dax : Dis a x) (dae : Dis (Uni a x) e) (re : RE c H F (ρ.set i none) σ e) (hx : σ[i]? = some (some p0)) (ri : R c H F (.ins true k vs) p0 a) (hj : vs[j]? = some (.lst true xs)) :
    ∃ pa dx fs pl us al, p0 = .ref pa ∧ H pa = some (.ins (c.cA k) dx fs) ∧ Cls K (c.cA k) ∧ NoAttr K (c.cA k) f ∧ fs.lookup f = some (.ref pl) ∧ H pl = some (.lst us) ∧ Sub al a ∧ xs.length ≤ big ∧ Rs c H F xs us al ∧
      ∀ ys ws b, Rs c H F ys ws b → Sub b (Uni al x) → ys.length ≤ big → Stp H F (Uni (Uni a x) e) (upd H pl (.lst ws)) F (Uni (Uni a x) e) ∧ Good (upd H pl (.lst ws)) F (Uni (Uni a x) e) ∧ RE c (upd H pl (.lst ws)) F (ρ.set i (some (.ins true k (vs.set j (.lst true ys))))) σ (Uni (Uni a x) e) := by
  obtain ⟨cl, no, hj0, hd, _⟩ := T.ok k j hk
  obtain ⟨pa, dx, us0, a', rfl, l0, hp, ma, na, t, rs⟩ := ri
  obtain ⟨w, b1, d1, h1, s1, s2, kd, rl, reb⟩ := rs.focus hj
  obtain ⟨pl, us, al, rfl, l1, hl, ml, nl, t1, rsl⟩ := rl.own
  refine ⟨pa, dx, _, pl, us, al, rfl, hp, cl, no, by rw [lookup_zip hj0 hd]; exact h1, hl, t1.trans (s1.trans t), l1, rsl, fun ys ws b ry sb ly => ?_⟩
  have apl : a pl := t pl (s1 pl ml)
  have nb : ¬ b pl := fun z => (sb pl z).elim nl (dax pl apl)
  have gp : Good H F (fun q => q = pl) := g.sub fun q z => by rw [z]; exact .inl (.inl apl)
  have sp : Stp H F (fun q => q = pl) (upd H pl (.lst ws)) F (fun q => q = pl) := Stp.put rfl
  have nD : ∀ {t : AS}, ¬ t pl → Dis t (fun q => q = pl) := fun n q y z => n (by rw [← z]; exact y)
  have re2 := re.step gp sp (nD fun z => dae pl (.inl apl) z)
  have ry2 := ry.step gp sp (nD nb)
  have rl2 : R c (upd H pl (.lst ws)) F (.lst true ys) (.ref pl) (Uni b1 x) := ⟨pl, ws, b, rfl, ly, upd_same, .inl ml, nb, sb.trans (Sub.uni (t1.trans Sub.l) Sub.r), ry2⟩
  have nd1 : ¬ d1 pl := fun z => kd pl ml z
  have rs2 := reb (upd H pl (.lst ws)) F (.lst true ys) (.ref pl) (Uni b1 x) d1 (fun x v a sa r => r.step gp sp (nD fun z => nd1 (sa pl z))) rl2
    (Dis.uni kd fun q y z => dax q (t q (s2 q z)) y)
  rw [set_same h1] at rs2
  have npl : pa ≠ pl := fun z => na (by rw [z]; exact s1 pl ml)
  have rI : R c (upd H pl (.lst ws)) F (.ins true k (vs.set j (.lst true ys))) (.ref pa) (Uni a x) :=
    ⟨pa, dx, us0, Uni (Uni b1 x) d1, rfl, by rw [List.length_set]; exact l0, by rw [upd_ne npl]; exact hp, .inl ma, fun z => z.elim (fun z => z.elim (fun z => na (s1 pa z)) fun z => dax pa ma z) fun z => na (s2 pa z),
      Sub.uni (Sub.uni (s1.trans (t.trans Sub.l)) Sub.r) (s2.trans (t.trans Sub.l)), rs2⟩
  refine ⟨Stp.put (.inl (.inl apl)), g.put (.inl (.inl apl)) trivial, ?_⟩
  have := RE.put re2 hx rI dae
  rwa [List.set_set] at this
section
variable {X : Cx} {c : RC} {W : WX} {fx : Nat → Bool} {i m y : Nat} {x z : Str} {e : Expr} {fe : EF} {pos p p1 p2 p3 apos : Pos} {tb : Tb} {f : Str}
theorem Dis.empr' {a : AS} : Dis a Emp := fun _ _ z => z
/-- x.f.append(z) -/
theorem ss_appF (hK : X.K = c.K) (T : FdOk X.K c tb f) (hv : PE X (.Name x p) (tVar i)) (hz : PE X (.Name z p3) (tVar y)) (hb : attributeBase (.Name x p) f X.env (eval (.Name x p) X.env) = eval (.Name x p) X.env := by rfl)
    (hbase : attributeBase (.Attribute (.Name x p) f p1) "append" X.env (eval (.Attribute (.Name x p) f p1) X.env) = eval (.Attribute (.Name x p) f p1) X.env := by rfl)
    (hfew : ((backTo pos (starEach (.Name z p3 :: []) X.env)).all (fun x => !x.1) && (backToKw pos (keywordEach [] X.env)).all (fun x => x.1.isSome)
      && decide ((Expr.Name z p3 :: ([] : List Expr)).length + ([] : List Keyword).length + (if ([] : List Keyword).isEmpty then 0 else 1) < 30)) = true := by rfl)
    (hline : (apos.endLine == pos.line) = true := by rfl) (hs : starEach (.Name z p3 :: []) X.env = (false, eval (.Name z p3) X.env) :: starEach [] X.env := by rfl) (hplain : (backTo pos (starEach [] X.env)).any (·.1) = false := by rfl) {pos2 : Pos}
    (hsw : swapsWith (.Call (.Attribute (.Attribute (.Name x p) f p1) "append" apos) [.Name z p3] [] pos) none pos2.line X.env = pure false := by rfl) :
    SS c W fx X (.Expr (.Call (.Attribute (.Attribute (.Name x p) f p1) "append" apos) [.Name z p3] [] pos) pos2) (sAppF i y tb) := by
  refine PS.weak (ps_expr (pe_bm PySem.F.plainAttrs_list PySem.F.slot_list_append PySem.F.type_list_append mt_append (pe_fld hv hb) (pa_cons hz pa_nil hs) hbase hfew hline hs hplain) hsw) fun D σ H q => ?_
  obtain ⟨ρ, F, A, g, re, p⟩ := q
  unfold sAppF at p
  cases q : slot ρ y with
  | none => simp only [q] at p; exact p.elim
  | some v =>
    simp only [q] at p
    split at p
    · rename_i hf
      unfold sAt at p
      cases q1 : fldLst tb (slot ρ i) with
      | none => simp only [q1] at p; exact p.elim
      | some w =>
        obtain ⟨k, vs, j, xs⟩ := w
        simp only [q1] at p
        obtain ⟨e1, e2, e3⟩ := fldLst_some q1
        split at p
        · rename_i l
          split at l
          · rename_i lb
            cases l
            obtain ⟨y1, b1, h1, _, r1⟩ := re.look q
            obtain ⟨x1, bb, dd, k1, k2, k3, k4, k5, k6⟩ := re.take e1
            have gg : Good H F (Uni (Uni bb Emp) dd) := g.sub (Sub.uni (Sub.uni k2 Sub.emp) k3)
            obtain ⟨pa, dx, fs, pl, us, al, rfl, hp, cl, no, hl, hpl, sal, lx, rs, fin⟩ := write_fldL T e2 gg Dis.empr' (Dis.uni k4 Dis.empl) k6 k1 k5 e3
            refine ⟨_, k1, pa, _, dx, fs, _, rfl, hp, cl, no, hl, ?_, ?_⟩
            · exact .inl ⟨rfl, us, .inl (.inl hpl)⟩
            · refine ⟨y1, h1, pl, us, y1, rfl, rfl, hpl, by rw [rs.len]; exact lb, ?_⟩
              obtain ⟨s2, g2, r2⟩ := fin (xs ++ [v]) (us ++ [y1]) (Uni al Emp) (rs.append (Rs.one (r1.emp hf)) Dis.empr') (Sub.uni Sub.l Sub.emp) (by rw [List.length_append, List.length_singleton]; exact lb)
              exact (PostS.sub p (Sub.uni (Sub.uni k2 Sub.emp) k3)) σ _ F _ s2 g2 r2 Keep.refl
          · cases l
        · exact p.elim
    · exact p.elim
/-- x.f[z] = e -/
theorem ss_putLF (T : FdOk X.K c tb f) (hv : PE X (.Name x p) (tVar i)) (hz : PE X (.Name z p3) (tVar m)) (h : SE X c W e fe) {tp : Pos} (hb : attributeBase (.Name x p) f X.env (eval (.Name x p) X.env) = eval (.Name x p) X.env := by rfl)
    (ha : ∀ v, assign (.Subscript (.Attribute (.Name x p) f p1) (.Name z p3) tp) X.env v = (do
      let ov ← holding [v] (eval (.Attribute (.Name x p) f p1) X.env)
      let iv ← holding [v, ov] (eval (.Name z p3) X.env)
      standAt tp
      holding [v, ov, iv] (setItem ov iv v)
      release [v, ov, iv] []) := by intro _; rfl)
    (hs : swapsWithSole [.Subscript (.Attribute (.Name x p) f p1) (.Name z p3) tp] e pos.line X.env = pure false := by rfl) (hw : swappedStores [.Subscript (.Attribute (.Name x p) f p1) (.Name z p3) tp] e X.env = pure none := by rfl)
    (h1 : (assignEach [.Subscript (.Attribute (.Name x p) f p1) (.Name z p3) tp] X.env).map (·.2) = [assign (.Subscript (.Attribute (.Name x p) f p1) (.Name z p3) tp) X.env] := by rfl) :
    SS c W fx X (.Assign [.Subscript (.Attribute (.Name x p) f p1) (.Name z p3) tp] e pos) (sPutLF i m tb fe) := by
  refine PS.weak (ps_asg h (pg_sub (pe_fld hv hb) hz set_list ha) hs hw h1) fun D σ H q => ?_
  refine tS.expr (rel := relE c) q fun v y ρ1 H1 F1 a e g1 d r re1 p1 => ?_
  cases q0 : slot ρ1 m with
  | none => simp only [q0] at p1; exact p1.elim
  | some u0 =>
    cases u0 with
    | int n =>
      simp only [q0] at p1
      unfold sAt at p1
      cases q1 : fldLst tb (slot ρ1 i) with
      | none => simp only [q1] at p1; exact p1.elim
      | some w =>
        obtain ⟨k, vs, j, xs⟩ := w
        simp only [q1] at p1
        obtain ⟨e1, e2, e3⟩ := fldLst_some q1
        cases q2 : ixN xs.length n with
        | none => simp only [q2, Option.map_none] at p1; exact p1.elim
        | some l =>
          simp only [q2, Option.map_some] at p1
          obtain ⟨y1, b1, h1, _, r1⟩ := re1.look q0
          obtain rfl : y1 = V.int n := r1
          obtain ⟨x1, bb, dd, k1, k2, k3, k4, k5, k6⟩ := re1.take e1
          have dba : Dis bb a := fun q y z => d q z (k2 q y)
          have gg : Good H1 F1 (Uni (Uni bb a) dd) := g1.sub (Sub.uni (Sub.uni (k2.trans Sub.r) Sub.l) (k3.trans Sub.r))
          obtain ⟨pa, dx, fs, pl, us, al, rfl, hp, cl, no, hl, hpl, sal, lx, rs, fin⟩ := write_fldL T e2 gg dba (Dis.uni k4 (fun q y z => d q y (k3 q z))) k6 k1 k5 e3
          have dal : Dis a al := fun q y z => dba q (sal q z) y
          refine ⟨_, k1, pa, _, dx, fs, _, rfl, hp, cl, no, hl, _, h1, pl, us, n, l, rfl, rfl, hpl, by rw [rs.len]; exact q2, ?_⟩
          obtain ⟨s2, g2, r2⟩ := fin (xs.set l v) (us.set l y) (Uni a al) (rs.setAt r dal) (Sub.uni Sub.r Sub.l) (by rw [List.length_set]; exact lx)
          exact (PostS.sub p1 (Sub.uni (Sub.uni (k2.trans Sub.r) Sub.l) (k3.trans Sub.r))) σ _ F1 _ s2 g2 r2 Keep.refl
    | _ => simp only [q0] at p1; exact p1.elim
theorem Rs.erase : ∀ {H : Hp} {F : AS} {xs : List PV} {vs : List V} {a : AS} {l : Nat}, Rs c H F xs vs a → Rs c H F (xs.eraseIdx l) (vs.eraseIdx l) a
  | _, _, [], _, _, _, h => by rw [show _ = [] from h]; exact rfl
  | _, _, x :: xs, _, _, 0, ⟨v, vs, b, d, e, sb, sd, k, r, rs⟩ => by rw [e]; exact rs.mono sd
  | _, _, x :: xs, _, _, l + 1, ⟨v, vs, b, d, e, sb, sd, k, r, rs⟩ => by rw [e]; exact ⟨v, _, b, d, rfl, sb, sd, k, r, rs.erase⟩
/-- del x.f[z] -/
theorem ss_delF (T : FdOk X.K c tb f) (hv : PE X (.Name x p) (tVar i)) (hz : PE X (.Name z p3) (tVar m)) {tp : Pos} (hb : attributeBase (.Name x p) f X.env (eval (.Name x p) X.env) = eval (.Name x p) X.env := by rfl) :
    SS c W fx X (.Delete [.Subscript (.Attribute (.Name x p) f p1) (.Name z p3) tp] pos) (sDelF i m tb) := by
  refine PS.weak (ps_delL (pe_fld hv hb) hz) fun D σ H q => ?_
  obtain ⟨ρ, F, A, g, re, p⟩ := q
  unfold sDelF at p
  cases q0 : slot ρ m with
  | none => simp only [q0] at p; exact p.elim
  | some u0 =>
    cases u0 with
    | int n =>
      simp only [q0] at p
      unfold sAt at p
      cases q1 : fldLst tb (slot ρ i) with
      | none => simp only [q1] at p; exact p.elim
      | some w =>
        obtain ⟨k, vs, j, xs⟩ := w
        simp only [q1] at p
        obtain ⟨e1, e2, e3⟩ := fldLst_some q1
        cases q2 : ixN xs.length n with
        | none => simp only [q2, Option.map_none] at p; exact p.elim
        | some l =>
          simp only [q2, Option.map_some] at p
          obtain ⟨y1, b1, h1, _, r1⟩ := re.look q0
          obtain rfl : y1 = V.int n := r1
          obtain ⟨x1, bb, dd, k1, k2, k3, k4, k5, k6⟩ := re.take e1
          have gg : Good H F (Uni (Uni bb Emp) dd) := g.sub (Sub.uni (Sub.uni k2 Sub.emp) k3)
          obtain ⟨pa, dx, fs, pl, us, al, rfl, hp, cl, no, hl, hpl, sal, lx, rs, fin⟩ := write_fldL T e2 gg Dis.empr' (Dis.uni k4 Dis.empl) k6 k1 k5 e3
          obtain ⟨z1, z2, z3, z4⟩ := ixN_seq (n := us.length) (by rw [rs.len]; exact q2)
          refine ⟨_, k1, pa, _, dx, fs, _, rfl, hp, cl, no, hl, _, h1, pl, us, n, l, rfl, rfl, hpl, ?_, ?_, ?_, ?_⟩
          · have := rs.len; unfold big at lx; omega
          · have := rs.len; unfold big at lx; omega
          · exact z1
          · obtain ⟨s2, g2, r2⟩ := fin (xs.eraseIdx l) (us.eraseIdx l) al rs.erase Sub.l (by have := List.length_eraseIdx_le xs l; omega)
            exact (PostS.sub p (Sub.uni (Sub.uni k2 Sub.emp) k3)) σ _ F _ s2 g2 r2 Keep.refl
    | _ => simp only [q0] at p; exact p.elim
end
end Tr
set_option Elab.async false
set_option linter.all false
set_option maxRecDepth 100000
set_option maxHeartbeats 4000000
/-! Tr.Z: zip of two tuples; the pairs have no dict. -/
namespace Tr
open PySem PySem.Spec PyProof.Rows L2
/-- the tuples at a and b; a turn's item is a new pair -/
def ItzB (K : PySem.W.Frag) (a b : Addr) : It where
  go i H := ∃ (xs ys : List V) (x y : V), SqT K H a xs ∧ SqT K H b ys ∧ xs[i]? = some x ∧ ys[i]? = some y
  yld i H v H' := ∃ T o x y, v = .ref T ∧ H T = none ∧ TB o ∧ H' = upd H T (.frz o (.tup [x, y])) ∧ (∀ xs, SqT K H a xs → xs[i]? = some x) ∧ ∀ ys, SqT K H b ys → ys[i]? = some y
  stop i H := ∃ xs ys : List V, SqT K H a xs ∧ SqT K H b ys ∧ (xs.length ≤ i ∨ ys.length ≤ i)
abbrev ZSt (a b z TI TO i1 i2 : Addr) (i : Nat) (h : Heap) : Prop := IsZip h z TI TO .none ∧ IsPair h TI (.ref i1) (.ref i2) ∧ (∃ x y, IsPair h TO x y) ∧ h.IsTupleIter i1 a i ∧ h.IsTupleIter i2 b i
theorem five {z TI TO i1 i2 c : Addr} {M : Addr → Prop} (hc : c ∈ [z, TI, TO, i1, i2]) (m1 : M z) (m2 : M TI) (m3 : M TO) (m4 : M i1) (m5 : M i2) : M c := by
  simp only [List.mem_cons, List.not_mem_nil, or_false] at hc
  rcases hc with rfl | rfl | rfl | rfl | rfl <;> assumption
theorem turn_zipB {P : Program} {w : World} {K : PySem.W.Frag} {elts : List Expr} {kk : Nat} {tpos : Pos} {a b z TI TO i1 i2 : Addr} (D : ZipApart z TI TO i1 i2 a b) :
    Turn P w K (.Tuple elts kk tpos) (ItzB K a b) [z, TI, TO, i1, i2] z (ZSt a b z TI TO i1 i2) where
  mem := List.mem_cons_self
  obj := fun i h st c hc => by
    obtain ⟨hz, hTI, ⟨x, y, hTO⟩, ⟨o1, e1, _, d1⟩, ⟨o2, e2, _, d2⟩⟩ := st
    exact five (M := fun c => ∃ o, h.get? c = some o ∧ ∀ v, o.data ≠ .cell v) hc ⟨_, hz, fun v q => nomatch q⟩ ⟨_, hTI, fun v q => nomatch q⟩ ⟨_, hTO, fun v q => nomatch q⟩ ⟨o1, e1, fun v q => by rw [d1] at q; cases q⟩ ⟨o2, e2, fun v q => by rw [d2] at q; cases q⟩
  keep := fun i h h' st k => by
    obtain ⟨hz, hTI, ⟨x, y, hTO⟩, h1, h2⟩ := st
    exact ⟨k z (by simp) _ hz, k TI (by simp) _ hTI, ⟨x, y, k TO (by simp) _ hTO⟩, h1.at fun o q => k i1 (by simp) o q, h2.at fun o q => k i2 (by simp) o q⟩
  item := by
    intro X hP hw hK hc i pins s σ H E I hf st hg
    subst hP hw hK
    obtain ⟨hz, hTI, ⟨x0, y0, hTO⟩, h1, h2⟩ := st
    obtain ⟨xs, ys, x, y, hqx, hqy, hx, hy⟩ := hg
    obtain ⟨us1, rv, p, _⟩ := I.tuple hqx
    obtain ⟨us2, rv2, p2, _⟩ := I.tuple hqy
    obtain ⟨u, hu, ru⟩ := rv.get hx
    obtain ⟨u2, hu2, ru2⟩ := rv2.get hy
    have hzl : z < s.heap.objs.size := Heap.lt_size hz
    refine RZ.pyNext_zipT_item D hz hTI hTO h1 h2 p p2 (x := u) (y := u2) (by simpa using hu) (by simpa using hu2) fun h' z' TO' h1' h2' hT hsz hk => ⟨_, rfl, wpAny_letOwnedTupleGo_zip (s := { s with heap := h' }) z' fun h'' z'' sb => ?_⟩
    have at2 : h''.get? s.heap.objs.size = some (tupO #[u, u2]) := (sb.2 _ (Nat.ne_of_gt hzl)).trans hT
    have new : ObjOk X.prog X.w (upd H s.heap.objs.size (.frz (tupO #[u, u2]) (.tup [x, y]))) h'' s.heap.objs.size (.frz (tupO #[u, u2]) (.tup [x, y])) :=
      ⟨at2, (by decide : 2 ≤ sizeLine), [u, u2], .cons ru (.cons ru2 .nil), ⟨_, at2, rfl, _, rfl⟩⟩
    have I1 : L2.Inv X pins σ (upd H s.heap.objs.size (.frz (tupO #[u, u2]) (.tup [x, y]))) { s with heap := h'' } :=
      I.turnedNew (t' := s.toks) (ch := [z, TI, TO, i1, i2]) (fun c o hb q => (sb.2 c (fun q' => hb (by simp [q']))).trans (hk c o (fun q' => hb (by simp [q'])) (fun q' => hb (by simp [q'])) (fun q' => hb (by simp [q'])) (fun q' => hb (by simp [q'])) q)) hf (Nat.le_refl _) new
    refine ⟨.ref s.heap.objs.size, _, I1, rfl, ⟨_, _, x, y, rfl, I.hok.fresh (Nat.le_refl _), tB _, rfl, fun l hl => by rw [I.tuple_inj hl hqx]; exact hx, fun l hl => by rw [I.tuple_inj hl hqy]; exact hy⟩, ⟨z'', (sb.2 _ D.TIz).trans (hk _ _ D.TIz D.TITO D.TIi1 D.TIi2 hTI), ⟨u, u2, (sb.2 _ D.TOz).trans TO'⟩, h1'.at fun o q => (sb.2 _ D.i1z).trans q, h2'.at fun o q => (sb.2 _ D.i2z).trans q⟩, fun c hcm => ?_⟩
    obtain ⟨_, e1, _⟩ := h1
    obtain ⟨_, e2, _⟩ := h2
    have lt : c < s.heap.objs.size := five (M := fun c => c < s.heap.objs.size) hcm hzl (Heap.lt_size hTI) (Heap.lt_size hTO) (Heap.lt_size e1) (Heap.lt_size e2)
    rw [upd_ne (Nat.ne_of_lt lt)]
    exact (hf c hcm).1
  done := by
    intro X hP hw hK hc i pins s σ H E I hf st hg
    subst hP hw hK
    obtain ⟨hz, hTI, ⟨x0, y0, hTO⟩, h1, h2⟩ := st
    obtain ⟨xs, ys, hqx, hqy, hend⟩ := hg
    obtain ⟨us1, rv, p, _⟩ := I.tuple hqx
    obtain ⟨us2, rv2, p2, _⟩ := I.tuple hqy
    have l1 := rv.length
    have l2 := rv2.length
    have he : us1.toArray[i]? = none ∨ us2.toArray[i]? = none := hend.imp (fun q => by simp; omega) fun q => by simp; omega
    exact RZ.pyNext_zipT_end (I.ok.hd hc) D hz hTI hTO h1 h2 p p2 he fun h' hk => ⟨rfl, I.turnedL (t' := s.toks) (ch := [z, TI, TO, i1, i2]) (fun c o hb q =>
      hk c o (fun q' => hb (by simp [q'])) (fun q' => hb (by simp [q'])) (fun q' => hb (by simp [q'])) (fun q' => hb (by simp [q'])) q) hf⟩
  self := fun A i s Q E st h => wpAny_pyIter_zip st.1 h
def iZipB (K : PySem.W.Frag) (ta : TA) : TI := fun σ H R => ta σ H fun vs H1 => ∃ a b xs ys, vs = [.ref a, .ref b] ∧ SqT K H1 a xs ∧ SqT K H1 b ys ∧ R (ItzB K a b) H1
theorem pi_zipB {X : Cx} {e e2 : Expr} {ta : TA} {p pos tpos : Pos} {elts : List Expr} {kk : Nat} (hg : Gl X "zip") (hm : X.mg "zip" = none) (ha : PA X [e, e2] ta)
    (hs : starEach [e, e2] X.env = (false, eval e X.env) :: starEach [e2] X.env := by rfl) (hpl : (backTo pos (starEach [e2] X.env)).any (·.1) = false := by rfl) :
    PI X (.Tuple elts kk tpos) (.Call (.Name "zip" p) [e, e2] [] pos) (iZipB X.K ta) := by
  refine ⟨fun pins s σ H R I h => ?_⟩
  refine Call_ (ld_blt I hg hm PyProof.Rows.boot_zip (PyProof.Rows.callWith_type1 (thn (ha.run pos pins s σ H _ I h) fun us s1 ⟨vs, H1, I1, r1, a, b, xs, ys, ex, hqx, hqy, q⟩ => ?_) hs hpl))
  subst ex
  obtain ⟨u1, u2, rfl, ra, rb⟩ := vals2 r1
  obtain rfl : u1 = Value.ref a := ra
  obtain rfl : u2 = Value.ref b := rb
  obtain ⟨us1, rv, p1, _⟩ := I1.tuple hqx
  obtain ⟨us2, rv2, p2, _⟩ := I1.tuple hqy
  obtain ⟨o1, ho1, _⟩ := id p1
  obtain ⟨o2, ho2, _⟩ := id p2
  refine RZ.call_zipT (show s1.heap.IsTuple a us1.toArray from p1) (show s1.heap.IsTuple b us2.toArray from p2) fun h' hz hTI hTO h1 h2 hsz hk => wpAny_pyIter_zip hz ?_
  have I2 : L2.Inv X pins σ H1 { s1 with heap := h' } := I1.kept (t' := s1.toks) hk
  refine ⟨s1.heap.objs.size + 4, [s1.heap.objs.size + 4, s1.heap.objs.size + 2, s1.heap.objs.size + 3, s1.heap.objs.size, s1.heap.objs.size + 1], _, _, H1, rfl, I2, turn_zipB (PySem.W.ktu_apart s1.heap.objs.size a b (Heap.lt_size ho1) (Heap.lt_size ho2)), ⟨hz, hTI, ⟨_, _, hTO⟩, h1, h2⟩, fun c hcm => ?_, q⟩
  have le : s1.heap.objs.size ≤ c := five (M := fun c => s1.heap.objs.size ≤ c) hcm (Nat.le_add_right _ _) (Nat.le_add_right _ _) (Nat.le_add_right _ _) (Nat.le_refl _) (Nat.le_add_right _ _)
  exact I1.fpOk le (I1.hok.fresh le)
end Tr
set_option Elab.async false
set_option linter.all false
set_option maxRecDepth 100000
set_option maxHeartbeats 4000000
/-! Tr.I7: fields looked at beside a name; zip; isinstance(x, (T, U)); int(text); t.index(x). -/
namespace Tr
open PySem PySem.Spec PyProof.Rows L2
section
variable {X : Cx} {c : RC} {W : WX} {tb tc : Tb} {f g : Str} {i j m n : Nat} {x y : Str} {pos p p1 p2 p3 p4 : Pos} {op : CmpOp} {r : R2} {k : PV → PV → Option Bool}
/-- x.f[y] -/
theorem e_ixF (D : Ds X c) (T : FdOk X.K c tb f) (hv : PE X (.Name x p) (tVar i)) (hz : PE X (.Name y p3) (tVar m)) (hb : attributeBase (.Name x p) f X.env (eval (.Name x p) X.env) = eval (.Name x p) X.env := by rfl) (hs : PlainIx (.Name y p3) := by intro _ _; rfl) :
    SE X c W (.Subscript (.Attribute (.Name x p) f p1) (.Name y p3) pos) (eP2 (pjl tb ix) (.nm i) (.nm m)) :=
  PE.weak (pe_ix ix_seq (pe_fld hv hb) hz hs) fun σ H Q q => fldL_q T q fun v w x y z ρ1 F1 A1 bb g sb e ⟨_, _, r1⟩ ⟨_, _, r2⟩ kk p => by
    have hk : K2 c (rIx X.K) ix := by rw [D.K]; exact k_ix
    exact hk v w z x y _ _ Q _ _ (g.sub Sub.emp) r1 r2 kk (p.fin g sb e)
theorem e_cmpL (T : FdOk X.K c tb f) (ho : OpR X (compareOp op) r) (hk : C2 c r k) (hv : PE X (.Name x p) (tVar i)) (hz : PE X (.Name y p3) (tVar m)) (hm : behindInMarks op (.Name y p3) = false) (hb : attributeBase (.Name x p) f X.env (eval (.Name x p) X.env) = eval (.Name x p) X.env := by rfl) :
    SE X c W (.Compare (.Attribute (.Name x p) f p1) [op] [.Name y p3] pos) (eT (tPV2 (pjl tb k) (.nm i) (.nm m))) :=
  PE.weak (pe_cmpR ho (pe_fld hv hb) hz hm) fun σ H Q q => fldL_q T (eT_bl q) fun v w x y z ρ1 F1 A1 bb g sb e ⟨_, _, r1⟩ ⟨_, _, r2⟩ kk p => hk v w z x y _ _ _ _ _ (g.sub Sub.emp) r1 r2 kk (p.now g sb rfl e)
theorem t_cmpL (T : FdOk X.K c tb f) (ho : OpR X (compareOp op) r) (hk : C2 c r k) (hv : PE X (.Name x p) (tVar i)) (hz : PE X (.Name y p3) (tVar m)) (hm : behindInMarks op (.Name y p3) = false) (hb : attributeBase (.Name x p) f X.env (eval (.Name x p) X.env) = eval (.Name x p) X.env := by rfl) :
    ST X c W (.Compare (.Attribute (.Name x p) f p1) [op] [.Name y p3] pos) (tPV2 (pjl tb k) (.nm i) (.nm m)) :=
  PT.weak (pt_cmpR ho (pe_fld hv hb) hz hm) fun σ H Q q => fldL_q T q fun v w x y z ρ1 F1 A1 bb g sb e ⟨_, _, r1⟩ ⟨_, _, r2⟩ kk p => hk v w z x y _ _ _ _ _ (g.sub Sub.emp) r1 r2 kk ⟨z, rfl, p.now g sb rfl e⟩
theorem e_cmpR (T : FdOk X.K c tb f) (ho : OpR X (compareOp op) r) (hk : C2 c r k) (hz : PE X (.Name y p3) (tVar m)) (hv : PE X (.Name x p) (tVar i)) (hm : behindInMarks op (.Attribute (.Name x p) f p1) = false) (hb : attributeBase (.Name x p) f X.env (eval (.Name x p) X.env) = eval (.Name x p) X.env := by rfl) :
    SE X c W (.Compare (.Name y p3) [op] [.Attribute (.Name x p) f p1] pos) (eT (tPV2 (pjr tb k) (.nm m) (.nm i))) :=
  PE.weak (pe_cmpR ho hz (pe_fld hv hb) hm) fun σ H Q q => fldR_q T (eT_bl q) fun v w x y z ρ1 F1 A1 bb g sb e ⟨_, _, r1⟩ ⟨_, _, r2⟩ kk p => hk v w z x y _ _ _ _ _ (g.sub Sub.emp) r1 r2 kk (p.now g sb rfl e)
theorem t_cmpR (T : FdOk X.K c tb f) (ho : OpR X (compareOp op) r) (hk : C2 c r k) (hz : PE X (.Name y p3) (tVar m)) (hv : PE X (.Name x p) (tVar i)) (hm : behindInMarks op (.Attribute (.Name x p) f p1) = false) (hb : attributeBase (.Name x p) f X.env (eval (.Name x p) X.env) = eval (.Name x p) X.env := by rfl) :
    ST X c W (.Compare (.Name y p3) [op] [.Attribute (.Name x p) f p1] pos) (tPV2 (pjr tb k) (.nm m) (.nm i)) :=
  PT.weak (pt_cmpR ho hz (pe_fld hv hb) hm) fun σ H Q q => fldR_q T q fun v w x y z ρ1 F1 A1 bb g sb e ⟨_, _, r1⟩ ⟨_, _, r2⟩ kk p => hk v w z x y _ _ _ _ _ (g.sub Sub.emp) r1 r2 kk ⟨z, rfl, p.now g sb rfl e⟩
theorem e_cmp2 (T : FdOk X.K c tb f) (T2 : FdOk X.K c tc g) (ho : OpR X (compareOp op) r) (hk : C2 c r k) (hv : PE X (.Name x p) (tVar i)) (hz : PE X (.Name y p3) (tVar m)) (hm : behindInMarks op (.Attribute (.Name y p3) g p4) = false) (hb : attributeBase (.Name x p) f X.env (eval (.Name x p) X.env) = eval (.Name x p) X.env := by rfl) (hb2 : attributeBase (.Name y p3) g X.env (eval (.Name y p3) X.env) = eval (.Name y p3) X.env := by rfl) :
    SE X c W (.Compare (.Attribute (.Name x p) f p1) [op] [.Attribute (.Name y p3) g p4] pos) (eT (tPV2 (pj2 tb tc k) (.nm i) (.nm m))) :=
  PE.weak (pe_cmpR ho (pe_fld hv hb) (pe_fld hz hb2) hm) fun σ H Q q => fld2_q T T2 (eT_bl q) fun v w x y z ρ1 F1 A1 bb g sb e ⟨_, _, r1⟩ ⟨_, _, r2⟩ kk p => hk v w z x y _ _ _ _ _ (g.sub Sub.emp) r1 r2 kk (p.now g sb rfl e)
theorem t_cmp2 (T : FdOk X.K c tb f) (T2 : FdOk X.K c tc g) (ho : OpR X (compareOp op) r) (hk : C2 c r k) (hv : PE X (.Name x p) (tVar i)) (hz : PE X (.Name y p3) (tVar m)) (hm : behindInMarks op (.Attribute (.Name y p3) g p4) = false) (hb : attributeBase (.Name x p) f X.env (eval (.Name x p) X.env) = eval (.Name x p) X.env := by rfl) (hb2 : attributeBase (.Name y p3) g X.env (eval (.Name y p3) X.env) = eval (.Name y p3) X.env := by rfl) :
    ST X c W (.Compare (.Attribute (.Name x p) f p1) [op] [.Attribute (.Name y p3) g p4] pos) (tPV2 (pj2 tb tc k) (.nm i) (.nm m)) :=
  PT.weak (pt_cmpR ho (pe_fld hv hb) (pe_fld hz hb2) hm) fun σ H Q q => fld2_q T T2 q fun v w x y z ρ1 F1 A1 bb g sb e ⟨_, _, r1⟩ ⟨_, _, r2⟩ kk p => hk v w z x y _ _ _ _ _ (g.sub Sub.emp) r1 r2 kk ⟨z, rfl, p.now g sb rfl e⟩
end
/-! ### zip -/
section
variable {X : Cx} {c : RC} {W : WX} {a b : Expr} {oa ob : Opd} {pos p tpos : Pos} {elts : List Expr} {kk : Nat}
def FzLs (c : RC) (p : Addr) (xs : List PV) (H : Hp) (F : AS) : Prop := ∃ vs, FzL H F p vs ∧ Rs c H F xs vs Emp
def FzTs (c : RC) (p : Addr) (xs : List PV) (H : Hp) (F : AS) : Prop := ∃ vs, SqT c.K H p vs ∧ Rs c H F xs vs Emp
theorem FzLs.step {q : Addr} {xs : List PV} {H H' : Hp} {F A F' A' : AS} (h : FzLs c q xs H F) (g : Good H F A) (s : Stp H F A H' F' A') : FzLs c q xs H' F' := by
  obtain ⟨vs, h1, h2⟩ := h; exact ⟨vs, h1.step g s, h2.step g s Dis.empl⟩
theorem FzTs.step {q : Addr} {xs : List PV} {H H' : Hp} {F A F' A' : AS} (h : FzTs c q xs H F) (g : Good H F A) (s : Stp H F A H' F' A') : FzTs c q xs H' F' := by
  obtain ⟨vs, h1, h2⟩ := h; exact ⟨vs, SqT.step g s h1, h2.step g s Dis.empl⟩
theorem zip_at {xs ys : List PV} {i : Nat} {z : PV} (h : (List.zipWith (fun x y => PV.tup [x, y]) xs ys)[i]? = some z) : ∃ x y, xs[i]? = some x ∧ ys[i]? = some y ∧ z = .tup [x, y] := by
  rw [List.getElem?_zipWith] at h
  cases q1 : xs[i]? with
  | none => rw [q1] at h; cases h
  | some x =>
    cases q2 : ys[i]? with
    | none => rw [q1, q2] at h; cases h
    | some y => rw [q1, q2] at h; cases h; exact ⟨x, y, rfl, rfl, rfl⟩
theorem pair_new {H : Hp} {F : AS} {T : Addr} {o : Obj} {x y : PV} {v w : V} (g : Good H F Emp) (hT : H T = none) (hb : TB o) (r1 : R c H F x v Emp) (r2 : R c H F y w Emp) : Stp H F Emp (upd H T (.frz o (.tup [v, w]))) F Emp ∧ R c (upd H T (.frz o (.tup [v, w]))) F (.tup [x, y]) (.ref T) Emp := by
  have s : Stp H F Emp (upd H T (.frz o (.tup [v, w]))) F Emp := Stp.newT hT
  exact ⟨s, T, [v, w], rfl, ⟨SqB.of upd_same hb, (by decide : 2 ≤ big)⟩, v, [w], Emp, Emp, rfl, Sub.emp, Sub.emp, Dis.empl, r1.step g s Dis.empl, w, [], Emp, Emp, rfl, Sub.emp, Sub.emp, Dis.empl, r2.step g s Dis.empl, rfl⟩
theorem src_zipT {q q' : Addr} {xs ys : List PV} (l : xs.length ≤ big) : Src c (ItzB c.K q q') (fun H F => FzTs c q xs H F ∧ FzTs c q' ys H F) Emp (List.zipWith (fun x y => PV.tup [x, y]) xs ys) where
  len := by rw [List.length_zipWith]; omega
  go := fun i H F h hi => by
    obtain ⟨⟨vs, h1, r1⟩, ⟨ws, h2, r2⟩⟩ := h
    rw [List.length_zipWith] at hi
    exact ⟨vs, ws, vs[i]'(by rw [r1.len]; omega), ws[i]'(by rw [r2.len]; omega), h1, h2, List.getElem?_eq_getElem _, List.getElem?_eq_getElem _⟩
  stop := fun H F h => by
    obtain ⟨⟨vs, h1, r1⟩, ⟨ws, h2, r2⟩⟩ := h
    refine ⟨vs, ws, h1, h2, ?_⟩
    rw [List.length_zipWith, r1.len, r2.len]; omega
  yld := fun i H F x H' z h g y e => by
    obtain ⟨⟨vs, h1, r1⟩, ⟨ws, h2, r2⟩⟩ := h
    obtain ⟨T, o, v, w, rfl, hT, hb, rfl, e1, e2⟩ := y
    obtain ⟨a, b, q1, q2, rfl⟩ := zip_at e
    exact pair_new g hT hb (r1.getV q1 (e1 vs h1)) (r2.getV q2 (e2 ws h2))
  step := fun H F A H' F' A' h g s d => ⟨h.1.step g s, h.2.step g s⟩
theorem si_zip (hK : X.K = c.K) (hg : Gl X "zip") (hm : X.mg "zip" = none) (ha : SO X c W a oa) (hb : SO X c W b ob)
    (hs : starEach [a, b] X.env = (false, eval a X.env) :: starEach [b] X.env := by rfl) (hs2 : starEach [b] X.env = (false, eval b X.env) :: starEach [] X.env := by rfl) (hpl : (backTo pos (starEach [b] X.env)).any (·.1) = false := by rfl) :
    SI X c W (.Tuple elts kk tpos) (.Call (.Name "zip" p) [a, b] [] pos) (iZip oa ob) := by
  refine PI.weak (pi_zipB hg hm (pa_cons ha (pa_cons hb pa_nil hs2) hs) hs hpl) fun σ H Q q => ?_
  refine tO.two q fun v w x y z ρ1 H1 F1 A1 bb g sb e ⟨_, _, r1⟩ ⟨_, _, r2⟩ kk pp => ?_
  unfold zipP at kk
  split at kk
  · split at kk
    · rename_i hf
      cases kk
      have hf' := Bool.and_eq_true_iff.mp hf
      obtain ⟨q1, vs, rfl, s1, l1, t1⟩ := (r1.emp hf'.1).tupR
      obtain ⟨q2, ws, rfl, s2, l2, t2⟩ := (r2.emp hf'.2).tupR
      refine ⟨q1, q2, vs, ws, rfl, by rw [hK]; exact s1, by rw [hK]; exact s2, ?_⟩
      rw [hK]
      exact pp.now g sb ⟨_, ⟨⟨vs, s1, t1⟩, ⟨ws, s2, t2⟩⟩, src_zipT l1⟩ e
    · cases kk
  · cases kk
end
/-! ### isinstance(x, (T, U)) -/
section
variable {X : Cx} {c : RC} {W : WX} {o : Expr} {oo : Opd} {pos p p2 p3 tp : Pos} {tk : _} {x1 x2 : Str}
theorem isA_ty {T : Ty} {v : PV} {z : Bool} (h : isA T v = some z) : ∃ n, tyP v = some n := by
  cases v <;> first | exact ⟨_, rfl⟩ | (cases T <;> cases h)
theorem isA_kit {K : PySem.W.Frag} {T : Ty} {v : PV} {z : Bool} {n : String} (e : tyP v = some n) (h : isA T v = some z) : PySem.W.kitOne K (.type n) (.type (tyN T)) = some z := by
  refine kit_ty ?_
  cases v <;> cases e <;> cases T <;> cases h <;> decide +kernel
theorem e_isa2 (D : Ds X c) (T U : Ty) (hm : X.mg "isinstance" = none) (hg : Gl X "isinstance") (hm1 : X.mg x1 = none) (hg1 : Gl X x1) (hb1 : bootBuiltins x1 = some (.type (tyN T))) (hm2 : X.mg x2 = none) (hg2 : Gl X x2) (hb2 : bootBuiltins x2 = some (.type (tyN U)))
    (hn1 : x1 ≠ "__name__") (hd1 : (x1 == ("__debug__" : Str)) = false) (hn2 : x2 ≠ "__name__") (hd2 : (x2 == ("__debug__" : Str)) = false) (ho : SO X c W o oo)
    (st : starEach [o, .Tuple [.Name x1 p2, .Name x2 p3] tk tp] X.env = (false, eval o X.env) :: starEach [.Tuple [.Name x1 p2, .Name x2 p3] tk tp] X.env := by rfl)
    (st2 : starEach [.Tuple [.Name x1 p2, .Name x2 p3] tk tp] X.env = (false, eval (.Tuple [.Name x1 p2, .Name x2 p3] tk tp) X.env) :: starEach [] X.env := by rfl) (he : (backTo pos (starEach [.Tuple [.Name x1 p2, .Name x2 p3] tk tp] X.env)).any (·.1) = false := by rfl)
    (s1 : starEach [.Name x1 p2, .Name x2 p3] X.env = (false, eval (.Name x1 p2) X.env) :: starEach [.Name x2 p3] X.env := by rfl) (s2 : starEach [.Name x2 p3] X.env = (false, eval (.Name x2 p3) X.env) :: starEach [] X.env := by rfl) :
    SE X c W (.Call (.Name "isinstance" p) [o, .Tuple [.Name x1 p2, .Name x2 p3] tk tp] [] pos) (eT (tPV (isA2 T U) oo)) := by
  have e1 : PE X (.Name x1 p2) (tC (.ty (tyN T))) := pe_bltn hg1 hm1 hb1 rfl hn1 hd1
  have e2 : PE X (.Name x2 p3) (tC (.ty (tyN U))) := pe_bltn hg2 hm2 hb2 rfl hn2 hd2
  have pt := pe_tup (x1 := tk) (pos := tp) (pa_cons e1 (pa_cons e2 pa_nil s2) s1)
  refine PE.weak (pe_callB call_isiT hg hm (by decide +kernel) (pa_cons ho (pa_cons pt pa_nil st2) st) (by decide) (by decide) st he) fun σ H Q q => ?_
  refine tO.one (eT_bl q) fun v x y ρ1 H1 F1 A1 bb g sb e ⟨_, _, r⟩ kq pp => ?_
  refine ⟨(by decide : 2 ≤ sizeLine), fun t ht => ?_⟩
  unfold isA2 at kq
  cases q1 : isA T v with
  | none => rw [q1] at kq; cases kq
  | some b1 =>
    cases q2 : isA U v with
    | none => rw [q1, q2] at kq; cases kq
    | some b2 =>
      rw [q1, q2] at kq
      cases kq
      obtain ⟨n, hn⟩ := isA_ty q1
      have stp : Stp H1 F1 Emp (upd H1 t (.tup [.ty (tyN T), .ty (tyN U)])) F1 Emp := Stp.newT ht
      have gE : Good H1 F1 Emp := g.sub Sub.emp
      have r2 := r.step gE stp Dis.empr
      refine ⟨_, t, _, .type n, [.type (tyN T), .type (tyN U)], b1 || b2, rfl, upd_same, .cons (.ty _) (.cons (.ty _) .nil), by rw [D.K]; exact tyx_of r2 hn, ?_, ?_⟩
      · unfold PySem.W.kitAny
        rw [isA_kit hn q1]
        cases b1 with
        | true => rfl
        | false =>
          show PySem.W.kitAny X.K (.type n) [.type (tyN U)] = some b2
          unfold PySem.W.kitAny
          rw [isA_kit hn q2]
          cases b2 <;> rfl
      · exact pp _ _ F1 Emp bb ((Stp.newT ht).drop (Sub.uni Sub.emp sb)) ((g.newT ht).sub (Sub.uni Sub.emp sb)) Dis.empl rfl (RE.step (g.sub Sub.emp) stp e Dis.empr)
end
end Tr
set_option Elab.async false
set_option linter.all false
set_option maxRecDepth 100000
/-! Tr.SetS: len(set(tuple of texts)). -/
namespace Tr
open PySem PySem.Spec PyProof.Rows L2
section
variable {P : Program} {w : World} {A : Around}
theorem take_any (xs : List Str) {i : Nat} (h : i < xs.length) (k : Str) : (xs.take (i + 1)).any (· == k) = ((xs.take i).any (· == k) || decide (k = xs.getD i Str.empty)) := by
  rw [List.take_succ_eq_append_getElem h, List.any_append]
  congr 1
  rw [List.getD_eq_getElem?_getD, List.getElem?_eq_getElem h]
  show ((xs[i] == k) || false) = decide (k = xs[i])
  rw [Bool.or_false]
  by_cases e : k = xs[i]
  · subst e; simp
  · have : (xs[i] == k) = false := by simpa [beq_iff_eq] using fun z : xs[i] = k => e z.symm
    simp [this, e]
theorem set_update_strs {R : Result → Shared → Prop} {I : Addr} {fp wr : List Addr} {G : Array GenState → Array GenState → Prop} {n : Nat} {Pv : Nat → Value → Prop} {St : Nat → Shared → Prop}
    (W : WalksS P w A.in1 I fp wr G n Pv St) (S : Addr) (hSf : S ∉ fp) (xs : List Str) (hsz : xs.length = n) (hn1 : n + 1 < scanBound) (hval : ∀ i v, Pv i v → ∃ t, v = .str (xs.getD i Str.empty) t) :
    ∀ (k i : Nat) (s : Shared), n - i = k → i ≤ n → St i s → s.heap.SetOf (PySem.strKind P w) S (fun k' => (xs.take i).any (· == k')) (dcount xs i) →
      (∀ s', Moved (S :: wr) G s s' → s'.heap.SetOf (PySem.strKind P w) S (fun k' => (xs.take n).any (· == k')) (dcount xs n) → R (.ok (.ret .none)) s') →
      codeAny (model P w) A (.builtin "set.update.loop" ⟨[.ref S, .ref I], []⟩) R s := by
  have nw : S ∉ wr := fun h => hSf (W.sub _ h)
  have up : ∀ b ∈ wr, b ∈ S :: wr := fun b hb => List.mem_cons_of_mem _ hb
  intro k
  induction k with
  | zero =>
    intro i s hk hi st hS hR
    obtain rfl : i = n := by omega
    refine codeAny_builtin PyProof.Rows.F.entry_set_update_loop ?_
    rw [Around.under_plainId PyProof.Rows.F.plain_set_update_loop _]
    show wpAny _ A.in1 (pyNext (.ref I) >>= _) _ _ s
    refine wpAny_bind (W.done s _ _ st fun s' hm => ?_)
    show wpAny _ A.in1 (ret Value.none) _ _ s'
    obtain ⟨o, es, ep, t, ho, rest⟩ := hS
    exact wpAny_pure (hR s' (hm.mono up) ⟨o, es, ep, t, hm.heap S _ nw ho, rest⟩)
  | succ k ih =>
    intro i s hk hi st hS hR
    have lt : i < n := by omega
    refine codeAny_builtin PyProof.Rows.F.entry_set_update_loop ?_
    rw [Around.under_plainId PyProof.Rows.F.plain_set_update_loop _]
    show wpAny _ A.in1 (pyNext (.ref I) >>= _) _ _ s
    refine wpAny_bind (W.item i s _ _ lt st fun v s' hP st' hm => ?_)
    obtain ⟨t, rfl⟩ := hval i v hP
    have hS' : s'.heap.SetOf (PySem.strKind P w) S (fun k' => (xs.take i).any (· == k')) (dcount xs i) := by
      obtain ⟨o, es, ep, tb, ho, rest⟩ := hS
      exact ⟨o, es, ep, tb, hm.heap S _ nw ho, rest⟩
    show wpAny _ A.in1 (holding [Value.str (xs.getD i Str.empty) t] (setAdd S (.str (xs.getD i Str.empty) t)) >>= _) _ _ s'
    refine wpAny_bind (wpAny_holding ?_)
    unfold setAdd
    refine wpAny_holding ?_
    refine wpAny_bind ((PySem.strKind P w).pyHash (k := xs.getD i Str.empty) (strKind_is _ _ _ _) ?_)
    refine wpAny_setAddHashed_of (knd := PySem.strKind P w) (s := { s' with toks := s'.toks + 1 }) (strKind_is _ _ _ _) rfl hS' (by have := dcount_le xs i; omega) fun h' hsb hS2 => ?_
    have hSi : h'.SetOf (PySem.strKind P w) S (fun k' => (xs.take (i + 1)).any (· == k')) (dcount xs (i + 1)) := SetOf_congr hS2 (fun k' => (take_any xs (by omega) k').symm) (by rw [dcount])
    refine wpAny_pure ⟨plainId_quiet PyProof.Rows.F.plain_set_update_loop _, ih (i + 1) _ (by omega) lt (W.frame _ s' _ _ st' (Nat.le_succ _) fun b hb o e => ?_) hSi fun s'' hm'' hS'' => ?_⟩
    · rw [hsb.2 b (fun h : b = S => hSf (by rw [← h]; exact hb))]; exact e
    · refine hR s'' (Moved.trans W.gtrans ((hm.mono up).then_heap (Nat.le_succ _) fun b o hb e => ?_) hm'') hS''
      rw [hsb.2 b (fun h : b = S => hb (by rw [h]; exact List.mem_cons_self))]; exact e
end
end Tr
set_option Elab.async false
set_option linter.all false
set_option maxRecDepth 100000
/-! Tr.I8: len(set(tuple of texts)); t.index(x); int(text). -/
namespace Tr
open PySem PySem.Spec PyProof.Rows L2
section
variable {P : Program} {w : World} {A : Around} {E : Value → Shared → Prop} {s : Shared}
set_option maxHeartbeats 3200000 in
theorem tr_set_tup {l : Addr} {items : Array Value} (xs : List Str) {Q : Value → Shared → Prop} (hh : A.handled = none) (hl : s.heap.IsTuple l items) (hit : StrsAre items.toList xs) (hb : xs.length + 1 < scanBound)
    (h : ∀ (h' : Heap) (tk : Nat), h'.SetOf (PySem.strKind P w) s.heap.objs.size (fun k' => (xs.take items.size).any (· == k')) (dcount xs xs.length) → (∀ b o, s.heap.get? b = some o → h'.get? b = some o) → Q (.ref s.heap.objs.size) { s with heap := h', toks := tk }) :
    wpAny (model P w) A (call (.type "set") [.ref l]) Q E s := by
  have hn : xs.length = items.size := by rw [← StrsAre.len_eq hit, Array.length_toList]
  obtain ⟨c, tl, hmro⟩ := F.called_set.mro
  have hmade := F.called_set.made
  have hsub := F.called_set.sub
  refine wpAny_call (codeAny_of_tree ?_)
  show wpAny _ _ (callAny (.type "set") _) _ _ _
  refine wpAny_pure ⟨Code.quiet_builtin _ (by decide +kernel), codeAny_builtin F.entry_type_call ?_⟩
  rw [Around.under_plain (weight_type_call_type "set" [.ref l] []) rfl]
  have t1 := F.called_set.notType
  have t2 := F.called_set.canCreate
  have t3 := F.typeCall_set_1 (.ref l)
  repeat (any_goals (first | assumption | wp_step))
  refine codeAny_mono (code_set_led1 (.ref l) (E := E) (Q₁ := fun obj s₁ => obj = .ref s.heap.objs.size ∧ s₁ = { s with heap := s.heap.push (set0 w) }) ⟨rfl, rfl⟩) fun r s₁ hr => ?_
  cases r with
  | error e => exact hr
  | ok fl =>
    cases fl with
    | ret obj =>
      obtain ⟨rfl, rfl⟩ := hr
      have at0 : (s.heap.push (set0 w)).get? s.heap.objs.size = some (set0 w) := Heap.get?_push_size _ rfl
      have ty0 : Shared.TypeIs { s with heap := s.heap.push (set0 w) } (.ref s.heap.objs.size) "set" := ⟨_, at0, rfl⟩
      have t4 := F.called_set.init.lookup
      have t5 := F.called_set.init.bind (.ref s.heap.objs.size)
      repeat (any_goals (first | assumption | wp_step))
      refine codeAny_mono (codeAny_call_builtin (R := wants (fun r s₂ => r = .none ∧ ∃ h' tk, s₂ = { s with heap := h', toks := tk } ∧ h'.SetOf (PySem.strKind P w) s.heap.objs.size (fun k' => (xs.take items.size).any (· == k')) (dcount xs xs.length) ∧
          (∀ b o, s.heap.get? b = some o → h'.get? b = some o)) E) F.called_set.init.plain F.entry_set_init (check_set_init_1 ty0 ?_)) fun r₂ s₂ hr₂ => ?_
      · obtain ⟨⟨ocls, odict, odata, oslots⟩, hol, hcl, nl, hdl⟩ := hl
        simp only at hcl hdl
        subst hcl; subst hdl
        have lt : l < s.heap.objs.size := Heap.lt_size hol
        have sz : (s.heap.push (set0 w)).objs.size = s.heap.objs.size + 1 := Heap.size_push ..
        have ne1 : l ≠ (s.heap.push (set0 w)).objs.size := by rw [sz]; exact Nat.ne_of_lt (Nat.lt_succ_of_lt lt)
        have ol : (s.heap.push (set0 w)).get? l = some { cls := .type "tuple", dict := odict, data := .seq items nl, slots := oslots } := Heap.get?_push_of_some _ hol
        have isl : (s.heap.push (set0 w)).IsTuple l items := ⟨_, ol, rfl, nl, rfl⟩
        have u1 := F.sub_tuple_set
        have u2 := F.sub_tuple_frozenset
        have u3 : (Value.type "tuple" == Value.type "dict") = false := by decide
        unfold Builtin.«set.__init__» noKeywords Builtin.Frozenset.updateFrom
        generalize hPI : pyIter = PI
        wp_walk
        subst hPI
        refine wpAny_pyIter_tuple isl (wpAny_bind (wpAny_runValue ?_))
        have out : s.heap.objs.size ∉ [(s.heap.push (set0 w)).objs.size, l] := by
          simp only [List.mem_cons, List.not_mem_nil, or_false, not_or]
          exact ⟨by rw [sz]; exact Nat.ne_of_lt (Nat.lt_succ_self _), Nat.ne_of_gt lt⟩
        refine set_update_strs ((Walks.tuple (show A.in1.in1.in1.handled = none by simp [hh]) _ l ne1 items).toS) s.heap.objs.size out xs hn (by omega) (fun i v hv => SS.strs_at hit i v (by rw [Array.getElem?_toList]; exact hv)) (items.size - 0) 0 _ (by omega) (Nat.zero_le _)
          ⟨⟨_, Heap.get?_push_size _ rfl, rfl, rfl⟩, (isl.push _)⟩ ?hS0 fun s' hm hS' => ?hR
        case hS0 =>
          exact PyProof.Rows.SetOf_congr ((PyProof.Rows.setObjOf_fresh (knd := PySem.strKind P w) _).setOf (Heap.get?_push_of_some _ at0) (by unfold scanBound; omega)) (fun _ => rfl) rfl
        case hR =>
          obtain ⟨h', g2, d', tk', os'⟩ := s'
          obtain rfl : g2 = s.gens := hm.gens
          obtain rfl : d' = s.drawn := hm.drawn
          obtain rfl : os' = s.os := hm.os
          show wpAny _ _ _ _ _ _
          refine wpAny_pure ?_
          show wpAny _ _ (ret Value.none) _ _ _
          refine wpAny_pure ⟨rfl, h', tk', rfl, by rw [hn]; exact hS', fun b o e => ?_⟩
          have lb : b < s.heap.objs.size := Heap.lt_size e
          exact hm.heap b o (by simp only [List.mem_cons, List.not_mem_nil, or_false, not_or]; exact ⟨Nat.ne_of_lt lb, by rw [sz]; exact Nat.ne_of_lt (Nat.lt_succ_of_lt lb)⟩) (Heap.get?_push_of_some _ (Heap.get?_push_of_some _ e))
      · cases r₂ with
        | error e => exact hr₂
        | ok fl₂ =>
          cases fl₂ with
          | ret r =>
            obtain ⟨rfl, h', tk, rfl, hS', hk'⟩ := hr₂
            repeat (any_goals (first | assumption | wp_step))
            exact h _ _ hS' hk'
          | _ => exact hr₂.elim
    | _ => exact hr.elim
end
section
variable {X : Cx} {c : RC} {W : WX} {k : Nat} {a b : Expr} {oa ob : Opd} {ta : TE} {p p2 q pos ap : Pos}
def tLenSetT (K : PySem.W.Frag) (ta : TE) : TE := fun σ H Q => ta σ H fun x H1 => ∃ l, ∃ xs : List Str, x = .ref l ∧ SqT K H1 l (xs.map V.str) ∧ xs.length ≤ 60 ∧ Q (.int (dcount xs xs.length : Nat)) H1
theorem pe_lenSetT (hc : X.calm = true) (hg : Gl X "len") (hm : X.mg "len" = none) (hg2 : Gl X "set") (hm2 : X.mg "set" = none) (ha : PE X a ta)
    (na : starEach [a] X.env = (false, eval a X.env) :: starEach [] X.env := by rfl) (na2 : starEach [.Call (.Name "set" p2) [a] [] q] X.env = (false, eval (.Call (.Name "set" p2) [a] [] q) X.env) :: starEach [] X.env := by rfl) : PE X (.Call (.Name "len" p) [.Call (.Name "set" p2) [a] [] q] [] pos) (tLenSetT X.K ta) := by
  refine ⟨fun pins s σ H Q I h => ?_⟩
  refine Call_ (ld_blt I hg hm boot_len ?_)
  refine PyProof.Rows.callWith_builtin1 (PyProof.Rows.args_cons ?_ rfl) rfl rfl
  refine Call_ (ld_blt I hg2 hm2 boot_set ?_)
  refine PyProof.Rows.callWith_type1 (PyProof.Rows.args_cons (thn (ha.run pins s σ H _ I h) fun v s1 ⟨x, H1, I1, r1, q1⟩ => PyProof.Rows.args_nil ?_) na) na rfl
  obtain ⟨l, xs, rfl, hq, h1, q1⟩ := q1
  cases r1
  obtain ⟨its, r, pl, hz⟩ := I1.tuple hq
  refine tr_set_tup xs (I1.ok.hd hc) pl (by simpa using strsAre_of r) (by unfold scanBound; omega) fun h' tk hS hk => ?_
  refine PyProof.Rows.args_nil ?_
  obtain ⟨o, es, ep, t, ho, hex, hd, _, _, _, hf, hn⟩ := hS
  have I2 : Inv X pins σ H1 { s1 with heap := h', toks := tk } := I1.kept fun b o e => hk b o e
  have := dcount_le xs xs.length
  refine call_len_set ho hex hd hf (by rw [hn]; omega) ⟨.int (dcount xs xs.length : Nat), H1, I2.tok _, ⟨_, by rw [hn]⟩, q1⟩
/-- len(set(a)) -/
theorem e_lenSet (D : Dk X c W k) (hm : X.mg "len" = none) (hg : Gl X "len") (hm2 : X.mg "set" = none) (hg2 : Gl X "set") (ha : SO X c W a oa)
    (na : starEach [a] X.env = (false, eval a X.env) :: starEach [] X.env := by rfl) (na2 : starEach [.Call (.Name "set" p2) [a] [] q] X.env = (false, eval (.Call (.Name "set" p2) [a] [] q) X.env) :: starEach [] X.env := by rfl) :
    SE X c W (.Call (.Name "len" p) [.Call (.Name "set" p2) [a] [] q] [] pos) (eP1 fLenSetS oa) := by
  refine PE.weak (pe_lenSetT D.calm hg hm hg2 hm2 ha na na2) fun σ H Q q => ?_
  refine tO.one q fun v x z ρ1 H1 F1 A1 b g sb e ⟨_, _, r⟩ kk p => ?_
  cases v with
  | tup xs =>
    simp only [fLenSetS] at kk
    cases ei : Tr.allS xs with
    | none => rw [ei] at kk; cases kk
    | some ss =>
      rw [ei, Option.bind_some] at kk
      split at kk
      · rename_i h60
        cases kk
        obtain ⟨p0, vs, rfl, s1, l1, rs⟩ := r.tupR
        obtain ⟨ev, _⟩ := rs.strs ei
        subst ev
        exact ⟨p0, ss, rfl, by rw [D.K]; exact s1, by simpa using h60, p.now g sb rfl e⟩
      · cases kk
  | _ => cases kk
theorem sIdx_ok {x : Str} : ∀ {xs : List Str} {j : Nat}, sIdx x xs = some j → xs[j]? = some x ∧ ∀ m, m < j → xs[m]? ≠ some x
  | [], _, h => by cases h
  | y :: ys, j, h => by
    rw [sIdx] at h
    split at h
    · rename_i e; cases h; subst e; exact ⟨rfl, fun m z => absurd z (Nat.not_lt_zero m)⟩
    · rename_i ne
      cases q : sIdx x ys with
      | none => rw [q] at h; cases h
      | some i =>
        rw [q] at h; cases h
        obtain ⟨h1, h2⟩ := sIdx_ok q
        refine ⟨by simpa using h1, fun m hm => ?_⟩
        cases m with
        | zero => simpa using ne
        | succ m => simpa using h2 m (Nat.lt_of_succ_lt_succ hm)
/-- two operands, the first of a kind -/
theorem tO.twoG {β μ : Type} {rel' : Hp → AS → β → μ → AS → Prop} {g : PV → Bool} {M : V → Hp → Prop} {o o' : Opd} {k : PV → PV → Option β} {σ : L2.St} {H : Hp} {Q : μ → Hp → Prop} {K : V → V → Hp → Prop} (h : tG c W rel' (op2g g o o' k) σ H Q)
    (fin0 : ∀ v x H1 F1 a, g v = true → R c H1 F1 v x a → M x H1)
    (fin : ∀ v w x x' y ρ1 H1 F1 A1 b, Good H1 F1 A1 → Sub b A1 → RE c H1 F1 ρ1 σ b → (∃ a, Sub a A1 ∧ R c H1 F1 v x a) → (∃ a, Sub a A1 ∧ R c H1 F1 w x' a) → k v w = some y → Post c W rel' σ H1 F1 A1 (.ok y ρ1) Q → K x x' H1) :
    tO c W o σ H (fun x H1 => M x H1 ∧ tO c W o' σ H1 (fun x' H2 => K x x' H2)) := by
  obtain ⟨ρ, F, A, gd, e, p⟩ := h
  refine tO.next (t := Emp) gd Sub.emp (Sub.refl _) Dis.empl e p fun u x ρ1 H1 F1 a1 b1 g1 _ d tm e1 s p1 => ?_
  cases q0 : o.get u ρ1 with
  | none => simp only [q0, Option.any_none, Bool.false_eq_true, if_false] at p1; exact p1.elim
  | some v0 =>
    by_cases hg : g v0 = true
    · rw [q0, Option.any_some, if_pos hg] at p1
      obtain ⟨d0, _, r0⟩ := tm.get e1 q0
      refine ⟨fin0 v0 x H1 F1 d0 hg r0, ?_⟩
      refine tO.next (t := a1) (b := b1) g1 (Sub.l.trans Sub.r) (Sub.r.trans Sub.r) d e1 p1 fun u' x' ρ2 H2 F2 a2 b2 g2 d1 d2 tm' e2 s2 p2 => ?_
      have tm2 := tm.step (g1.sub (Sub.r.trans Sub.r)) s2 d
      cases q : o.get u ρ2 with
      | none => simp only [q] at p2; exact p2.elim
      | some v =>
        simp only [q, Option.bind_some] at p2
        cases q' : o'.get u' ρ2 with
        | none => simp only [q'] at p2; exact p2.elim
        | some w =>
          simp only [q', Option.bind_some] at p2
          cases q2 : k v w with
          | none => simp only [q2] at p2; exact p2.elim
          | some y =>
            simp only [q2] at p2
            obtain ⟨dd, s1, r⟩ := tm2.get e2 q
            obtain ⟨dd', s1', r'⟩ := tm'.get e2 q'
            exact fin v w x x' y ρ2 H2 F2 _ b2 g2 (Sub.r.trans Sub.r) e2 ⟨dd, s1.trans (Sub.uni Sub.l (Sub.r.trans Sub.r)), r⟩ ⟨dd', s1'.trans Sub.r, r'⟩ q2 p2
    · rw [q0, Option.any_some, if_neg hg] at p1
      exact p1.elim
/-- a method of a built-in tuple -/
def tTM (K : PySem.W.Frag) (r : V → List V → Hp → VK → Prop) (to : TE) (t : TA) : TE := fun σ H Q => to σ H fun x H1 => (∃ p ys, x = .ref p ∧ SqB K H1 p ys) ∧ t σ H1 fun xs H2 => r x xs H2 Q
theorem pe_tm {o e : Expr} {es : List Expr} {to : TE} {t : TA} {name : Str} {apos cpos : Pos} {id : String} {r : V → List V → Hp → VK → Prop} (slot : Slot "tuple" name id) (hty : typeOf (.builtin id) = pure (.type "method_descriptor")) (hm : MtR X id r) (ho : PE X o to) (ha : PA X (e :: es) t)
    (hbase : attributeBase o name X.env (eval o X.env) = eval o X.env := by rfl)
    (hfew : ((backTo cpos (starEach (e :: es) X.env)).all (fun x => !x.1) && (backToKw cpos (keywordEach [] X.env)).all (fun x => x.1.isSome)
      && decide ((e :: es).length + ([] : List Keyword).length + (if ([] : List Keyword).isEmpty then 0 else 1) < 30)) = true := by rfl)
    (hline : (apos.endLine == cpos.line) = true := by rfl) (hs : starEach (e :: es) X.env = (false, eval e X.env) :: starEach es X.env := by rfl) (hplain : (backTo cpos (starEach es X.env)).any (·.1) = false := by rfl) :
    PE X (.Call (.Attribute o name apos) (e :: es) [] cpos) (tTM X.K r to t) := by
  refine ⟨fun pins s σ H Q I h => ?_⟩
  refine wpAny_Call_method_late hbase hfew hline rfl (thn (ho.run pins s σ H _ I h) fun v s1 ⟨x, H1, I1, r1, ⟨p, ys, ex, hb⟩, q1⟩ => ?_)
  subst ex
  obtain rfl : v = Value.ref p := r1
  obtain ⟨ob, ho, hc, hd⟩ := hb.bare I1
  refine ⟨"tuple", id, PySem.F.plainAttrs_tuple, slot, hty, ⟨ob, ho, hc⟩, fun a e => by cases e; exact ⟨ob, ho, hd⟩, ?_⟩
  have hA := ha.run cpos pins s1 σ H1 _ I1 q1
  rw [hs] at hA ⊢
  refine Calls.callWith_builtin (by show (false || (backTo cpos (starEach es X.env)).any (·.1)) = false; rw [hplain] <;> rfl) (Calls.evalArgs_plain ?_)
  exact thn hA fun us s2 ⟨vs, H2, I2, r2, q2⟩ => hm pins s2 σ H2 (.ref p) vs (.ref p) us Q I2 (rfl : (Value.ref p) = Value.ref p) r2 q2
/-- t.index(x) -/
theorem e_idx (D : Ds X c) (ha : SO X c W a oa) (hb : SO X c W b ob)
    (hbase : attributeBase a "index" X.env (eval a X.env) = eval a X.env := by rfl)
    (hfew : ((backTo pos (starEach (b :: []) X.env)).all (fun x => !x.1) && (backToKw pos (keywordEach [] X.env)).all (fun x => x.1.isSome)
      && decide ((b :: ([] : List Expr)).length + ([] : List Keyword).length + (if ([] : List Keyword).isEmpty then 0 else 1) < 30)) = true := by rfl)
    (hline : (ap.endLine == pos.line) = true := by rfl) (hs : starEach (b :: []) X.env = (false, eval b X.env) :: starEach [] X.env := by rfl) (hplain : (backTo pos (starEach [] X.env)).any (·.1) = false := by rfl) :
    SE X c W (.Call (.Attribute a "index" ap) [b] [] pos) (eIdx oa ob) := by
  refine PE.weak (pe_tm PySem.F.slot_tuple_index PySem.F.type_tuple_index mt_tup_index ha (pa_cons hb pa_nil hs) hbase hfew hline hs hplain) fun σ H Q q => ?_
  refine tO.twoG (M := fun x H1 => ∃ p ys, x = .ref p ∧ SqB X.K H1 p ys) q (fun v x H1 F1 a1 hg r => ?_) fun v w x x' y ρ1 H1 F1 A1 bb g sb e ⟨_, _, r1⟩ ⟨_, _, r2⟩ kk p => ?_
  · cases v with
    | tup xs =>
      obtain ⟨p, vs, rfl, hb, _, _⟩ := r.tupB
      exact ⟨p, vs, rfl, by rw [D.K]; exact hb⟩
    | _ => cases hg
  · cases v with
    | tup xs =>
      cases w with
      | str z =>
        simp only [bIdx] at kk
        cases ei : Tr.allS xs with
        | none => rw [ei] at kk; cases kk
        | some ss =>
          rw [ei, Option.bind_some] at kk
          cases ej : sIdx z ss with
          | none => rw [ej] at kk; cases kk
          | some j =>
            rw [ej] at kk
            cases kk
            obtain ⟨p0, vs, rfl, s1, l1, rs⟩ := r1.tupR
            obtain ⟨ev, _⟩ := rs.strs ei
            subst ev
            obtain ⟨rfl, _⟩ := r2
            obtain ⟨h1, h2⟩ := sIdx_ok ej
            exact ⟨p0, ss, z, j, rfl, rfl, by rw [D.K]; exact s1, h1, h2, p.now g sb rfl e⟩
      | _ => cases kk
    | _ => cases kk
/-- int(text) -/
def fIntS : PV → Option PV
  | .str a => if decide (a.length ≤ 640) then (PySem.intText? a).map .int else none
  | .int i => some (.int i)
  | .bl b => some (.int (b2i b))
  | _ => none
/-- int(x), x a number or a text -/
theorem call_intA : CallR X (.type "int") (fun xs H Q => ((∃ i, xs = [.int i] ∧ Q (.int i) H) ∨ ∃ k, xs = [.bl k] ∧ Q (.int (if k then 1 else 0)) H) ∨ ∃ a n, xs = [.str a] ∧ PySem.intText? a = some n ∧ a.length ≤ 640 ∧ Q (.int n) H) := call_int1.or call_int_str
theorem k_intS : K1 c (fun v => (fun xs H Q => ((∃ i, xs = [.int i] ∧ Q (.int i) H) ∨ ∃ k, xs = [.bl k] ∧ Q (.int (if k then 1 else 0)) H) ∨ ∃ a n, xs = [.str a] ∧ PySem.intText? a = some n ∧ a.length ≤ 640 ∧ Q (.int n) H : List V → Hp → VK → Prop) [v]) fIntS := by
  intro v z x H F Q A g r k q
  cases v with
  | int i => exact .inl (k_int (c := c) (.int i) z x H F Q A g r k q)
  | bl i => exact .inl (k_int (c := c) (.bl i) z x H F Q A g r k q)
  | str a =>
    obtain ⟨rfl, _⟩ := r
    simp only [fIntS] at k
    split at k
    · rename_i h
      cases e : PySem.intText? a with
      | none => rw [e] at k; cases k
      | some n => rw [e] at k; cases k; exact .inr ⟨a, n, rfl, e, by simpa using h, q.now g rfl⟩
    · cases k
  | _ => cases k
theorem e_intS (D : Ds X c) (hm : X.mg "int" = none) (hg : Gl X "int") (ha : SO X c W a oa) (st : starEach [a] X.env = (false, eval a X.env) :: starEach [] X.env := by rfl) (he : (backTo pos (starEach [] X.env)).any (·.1) = false := by rfl) : SE X c W (.Call (.Name "int" p) [a] [] pos) (eP1 fIntS oa) := se_ty1 call_intA k_intS hg hm (by decide +kernel) ha (by decide) (by decide) st he
end
end Tr
set_option Elab.async false
set_option linter.all false
set_option maxRecDepth 100000
set_option maxHeartbeats 4000000
/-! Tr.I9: methods of the text; method calls with keywords; a def that calls itself. -/
namespace Tr
open PySem PySem.Spec PyProof.Rows L2
/-- the def m of the own class k, as the text's head leaves it -/
def MTx (K : PySem.W.Frag) (c : RC) (k : Nat) (m qual : Str) (st : Stmt) (ps : List Str) (f : Addr) (fd : FuncData) : Prop :=
  PySem.W.findIn K (.ref (c.cA k)) m = some (some (.ref f)) ∧ PySem.W.isFn K (.ref f) = true ∧ PySem.W.fnIn K f = true ∧ Fun K m qual st f fd ∧ Binds K fd ps []
/-- .. and what it does -/
def MDef (P : Program) (w : World) (K : PySem.W.Frag) (mg : Str → Option Value) (base : Heap) (c : RC) (lv k : Nat) (m qual : Str) (st : Stmt) (ps : List Str) (sem : FF) : Prop :=
  ∃ f fd, MTx K c k m qual st ps f fd ∧ FnG P w K mg base (L2.CX P w) lv f fd ps (spF c ps.length sem)
section
variable {X : Cx} {c : RC} {W : WX} {j lv k : Nat} {m qual : Str} {st : Stmt} {ps : List Str} {sem : FF}
theorem MDef.mok (M : MDef X.prog X.w X.K X.mg X.base c lv k m qual st ps sem) (cl : Cls X.K (c.cA k)) {fs : List Str} (hF : c.cF k = fs) (no : fs.contains m = false) (hr : lv ≤ j) : MOk X c j m ps.length [] k sem := by
  obtain ⟨f, fd, ⟨h1, h2, h3, h4, h5⟩, h6⟩ := M
  exact ⟨lv, f, fd, ps, [], [], cl, ⟨h1, h2, h4.kp⟩, h6, hr, h5, .nil, fun _ _ => rfl, by rw [hF]; simpa using no⟩
theorem MDef.op {n : Nat} (M : MDef X.prog X.w X.K X.mg X.base c lv k m qual st ps sem) (ns : PySem.W.noSeq X.K (c.cA k) = true) (hl : ps.length = n) (hr : lv + 1 ≤ j) : OpOk X c j m n k sem := by
  subst hl
  obtain ⟨f, fd, ⟨h1, h2, h3, h4, h5⟩, h6⟩ := M
  exact ⟨lv, f, fd, ps, h1, h2, h3, ns, h6, hr, h5⟩
theorem MDef.eq {tg : List Nat} (M : MDef X.prog X.w X.K X.mg X.base c lv k "__eq__" qual st ps sem) (hl : ps.length = 2) (nf : ∀ k', tg.contains k' = true → PySem.W.notFirst X.K (c.cA k) (.ref (c.cA k')) = true) (hr : lv ≤ j) : EqOk X c j tg k sem := by
  obtain ⟨f, fd, ⟨h1, h2, h3, h4, h5⟩, h6⟩ := M
  rw [hl] at h6
  exact ⟨lv, f, fd, ps, h1, h2, h6, hr, h5, nf⟩
end
section
variable {X : Cx} {c : RC} {W : WX} {j lv k n : Nat} {x : Str} {p pos : Pos} {e o : Expr} {es : List Expr} {os os2 : List Opd} {oo : Opd} {sem : FF} {qual : Str} {st : Stmt} {ps : List Str}
/-- C(e, ..) -/
theorem e_makeM (D : Dk X c W j) (M : MDef X.prog X.w X.K X.mg X.base c lv k "__init__" qual st ps sem) (mk : PySem.W.makesIn X.K (c.cA k) = true) (kp : PySem.W.keepIn X.K (.ref (c.cA k)) = true) (hr : lv + 1 ≤ j) (hg : Gl X x) (hm : X.mg x = some (.ref (c.cA k)))
    (ha : SOs X c W (e :: es) os) (hn : os.length + 1 = ps.length) (hdb : (x == ("__debug__" : Str)) = false := by decide) (he : starEach (e :: es) X.env = (false, eval e X.env) :: starEach es X.env := by rfl) (hpl : (backTo pos (starEach es X.env)).any (·.1) = false := by rfl) :
    SE X c W (.Call (.Name x p) (e :: es) [] pos) (eMake k sem os []) := by
  obtain ⟨f, fd, ⟨h1, h2, h3, h4, h5⟩, h6⟩ := M
  exact e_make (dvs := []) D ⟨mk, h1, h2, kp⟩ h6 hr hg hm h5 .nil (fun _ _ => rfl) ha (by simpa using hn) hdb he hpl
/-! ### o.m(k = v, ..) -/
def KwM (m qual : Str) (st : Stmt) (ps ks : List Str) (a b : Nat) (pp : List Nat) : Prop := ∀ (kV doc pm : Value) (an : Option Addr) (cdv ct : Value) (us ws : List Value), us.length = a → ws.length = b →
  bindArgs (PySem.W.fnOf m qual (defArgs st) (defBody st) (defScope st) .none kV doc pm an cdv ct) ⟨us, ks.zip ws⟩ = pure (ps.zip (gP pp (us ++ ws)))
structure MKOk (X : Cx) (c : RC) (j : Nat) (m : Str) (n : Nat) (ks : List Str) (k : Nat) (sem' : FF) : Prop where
  ok : ∃ (sem : FF) (pp qq : List Nat) (kk : Nat) (f : Addr) (fd : FuncData) (ps : List Str) (qual : Str) (st : Stmt), sem' = permF pp qq sem ∧ PermOk n pp qq ∧ Cls X.K (c.cA k) ∧ Meth X.K (c.cA k) m f ∧ Fun X.K m qual st f fd ∧ FnG X.prog X.w X.K X.mg X.base (L2.CX X.prog X.w) kk f fd ps (spF c n sem) ∧ kk ≤ j ∧ KwM m qual st ps ks 1 ks.length pp ∧ ks.length + 1 = n ∧ m ∉ c.cF k
def MKsOk (X : Cx) (c : RC) (j : Nat) (m : Str) (n : Nat) (ks : List Str) (mt : MT) : Prop := ∀ k sem, mt.lookup k = some sem → MKOk X c j m n ks k sem
theorem mks_nil {m : Str} {ks : List Str} : MKsOk X c j m n ks [] := fun k sem h => by cases h
theorem mks_cons {m : Str} {ks : List Str} {k : Nat} {mt : MT} (h : MKOk X c j m n ks k sem) (r : MKsOk X c j m n ks mt) : MKsOk X c j m n ks ((k, sem) :: mt) := fun k' s' e => by
  rw [List.lookup_cons] at e
  by_cases z : k' = k
  · subst z; simp at e; subst e; exact h
  · rw [show (k' == k) = false by simpa using z] at e
    exact r k' s' e
theorem MDef.mkok {m : Str} {ks : List Str} {pp qq : List Nat} (M : MDef X.prog X.w X.K X.mg X.base c lv k m qual st ps sem) (hp : PermOk ps.length pp qq) (hb : KwM m qual st ps ks 1 ks.length pp) (hl : ks.length + 1 = ps.length) (cl : Cls X.K (c.cA k)) {fs : List Str} (hF : c.cF k = fs) (no : fs.contains m = false) (hr : lv ≤ j) : MKOk X c j m ps.length ks k (permF pp qq sem) := by
  obtain ⟨f, fd, ⟨h1, h2, h3, h4, h5⟩, h6⟩ := M
  exact ⟨sem, pp, qq, lv, f, fd, ps, qual, st, rfl, hp, cl, ⟨h1, h2, h4.kp⟩, h4, h6, hr, hb, hl, by rw [hF]; simpa using no⟩
def MethTxK (X : Cx) (o : Expr) (m : Str) (apos pos : Pos) (kws : List Keyword) (pl : Sem Bool) : Prop := eval (.Call (.Attribute o m apos) [] kws pos) X.env = (do
  let ov ← eval o X.env
  standAt apos.atName
  let (f, first) ← holding [ov] (getMethod ov m pl)
  callWith pos f first (backTo pos (starEach [] X.env)) (backToKw pos (keywordEach kws X.env)))
theorem e_methK {mt : MT} {m : Str} {ks : List Str} {kws : List Keyword} {apos : Pos} {pl : Sem Bool} (D : Dk X c W j) (ho : SO X c W o oo) (hM : MKsOk X c j m n ks mt) (hn : os.length + 1 = n) (ha : SK X c W kws os)
    (ht : MethTxK X o m apos pos kws pl) (hall : (backToKw pos (keywordEach kws X.env)).all (·.1.isSome) = true := by rfl) (he : (backToKw pos (keywordEach kws X.env)).filterMap (·.1) = ks := by rfl)
    (hpl : ((backTo pos (starEach [] X.env)).any (·.1) || (backToKw pos (keywordEach kws X.env)).any (·.1.isNone)) = false := by rfl) :
    SE X c W (.Call (.Attribute o m apos) [] kws pos) (eMeth mt oo os []) := by
  refine ⟨fun pins s σ H Q I q => ?_⟩
  obtain ⟨k, sem', hk, h⟩ := recv_q q
  obtain ⟨sem, pp, qq, kk, f, fd, ps, qual, st, rfl, hp, cl, hm, hf, G, hr, hb, hl, hno⟩ := (hM k sem' hk).ok
  refine PySem.W.methodCall_KW (pl := pl) (thn (ho.run pins s σ H _ I h) fun u s1 hh => ?_) ht
  obtain ⟨x, H1, I1, rx, a, dx, vs0, rfl, ea, z⟩ := hh
  obtain rfl : u = Value.ref a := rx
  refine getmeth_ok I1 ea cl hm (lookup_no hno) ?_
  have z' := (z n [] (fun _ _ => rfl) (by simpa using hn)).len
  refine PySem.W.callWith_KW0 (first := [.ref a]) (h₀ := X.base) I1.ok.mod.kin hm.kp hall ?_ hpl
  refine thn (ha.run pos pins s1 σ H1 _ I1 z') fun ws s2 ⟨zs, H2, I2, rz, hlz, q2⟩ => ⟨I2.kIn, ?_⟩
  rw [he]
  rw [List.append_nil] at q2
  have q3 := spF_perm hp q2
  have r2 : Vals (V.ref a :: zs) (Value.ref a :: ws) := .cons rfl rz
  refine run_G (args := ⟨[.ref a], ks.zip ws⟩) G D.gd (D.hr.mono hr) (fun _ => ?_) (passAt D.tk σ) I2 (Tr.Vals.perm r2 pp) q3
  obtain ⟨oc, od, kV, doc, pm, an, cdv, ct, osl, rfl, lk, hcd⟩ := hf.ex
  exact .of_eq (hb kV doc pm an cdv ct [.ref a] ws rfl (by rw [← rz.length, hlz]; omega))
end
section
variable {P : Program} {w : World} {K : PySem.W.Frag} {mg : Str → Option Value} {base : Heap} {c : RC}
/-- a def that may do nothing here -/
theorem fng_bad {lv n : Nat} {f : Addr} {fd : FuncData} {ps : List Str} : FnG P w K mg base (L2.CX P w) lv f fd ps (spF c n fun _ => .bad) :=
  ⟨fun vs H Q E h => (by obtain ⟨_, _, _, _, _, _, p⟩ := h; exact p.elim), fun A gA outer s H args us vs Q E room env bind rel h => (by obtain ⟨_, _, _, _, _, _, p⟩ := h; exact p.elim)⟩
theorem mkMeth {c : RC} {h : Heap} {k : Nat} {m qual : Str} {st : Stmt} {ps : List Str} {f : Addr} {oc : Value} {od an : Option Addr} {osl : Array (Option Value)} {kV doc pm cdv ct : Value}
    (a : PySem.W.findIn K (.ref (c.cA k)) m = some (some (.ref f))) (fn : PySem.W.isFn K (.ref f) = true) (fi : PySem.W.fnIn K f = true) (l : K.lookup f = some ⟨oc, od, .func (PySem.W.fnOf m qual (defArgs st) (defBody st) (defScope st) .none kV doc pm an cdv ct), osl⟩)
    (cd : PySem.W.codeIn K cdv qual = true) (kp : PySem.W.keepIn K (.ref f) = true)
    (hb : ∀ (kV doc pm : Value) (an : Option Addr) (cdv ct : Value) (us : List Value), us.length = ps.length → bindArgs (PySem.W.fnOf m qual (defArgs st) (defBody st) (defScope st) .none kV doc pm an cdv ct) ⟨us, []⟩ = pure (ps.zip us)) :
    ∃ f fd, MTx K c k m qual st ps f fd := by
  have F := fun_mk (st := st) l cd kp
  exact ⟨f, _, a, fn, fi, F, F.binds hb⟩
end
end Tr
set_option Elab.async false
set_option linter.all false
set_option maxRecDepth 100000
set_option maxHeartbeats 4000000
/-! Tr.I10: short forms for the printer. -/
namespace Tr
open PySem PySem.Spec PyProof.Rows L2
section
variable {X : Cx} {c : RC} {W : WX} {tb tc : Tb} {f g : Str} {o : Expr} {oo : Opd} {i m : Nat} {x y : Str} {pos apos p p1 p2 p3 p4 : Pos}
theorem e_lenF (D : Ds X c) (T : FdOk X.K c tb f) (hm : X.mg "len" = none) (hg : Gl X "len") (ho : SO X c W o oo)
    (st : starEach [.Attribute o f apos] X.env = (false, eval (.Attribute o f apos) X.env) :: starEach [] X.env := by rfl) (he : (backTo pos (starEach [] X.env)).any (·.1) = false := by rfl) (hb : attributeBase o f X.env (eval o X.env) = eval o X.env := by rfl) :
    SE X c W (.Call (.Name "len" p) [.Attribute o f apos] [] pos) (eP1 (pj tb fLen) oo) := e_callF T call_lenAll (by rw [D.K]; exact k_len) hg hm (by decide +kernel) ho (by decide) (by decide) st he hb
theorem e_listF (D : Ds X c) (T : FdOk X.K c tb f) (hm : X.mg "list" = none) (hg : Gl X "list") (ho : SO X c W o oo)
    (st : starEach [.Attribute o f apos] X.env = (false, eval (.Attribute o f apos) X.env) :: starEach [] X.env := by rfl) (he : (backTo pos (starEach [] X.env)).any (·.1) = false := by rfl) (hb : attributeBase o f X.env (eval o X.env) = eval o X.env := by rfl) :
    SE X c W (.Call (.Name "list" p) [.Attribute o f apos] [] pos) (eP1 (pj tb fList) oo) := e_tyF T call_list_of (by rw [D.K]; exact k_list) hg hm (by decide +kernel) ho (by decide) (by decide) st he hb
variable (D : Ds X c)
include D
theorem t_eqF2 (T : FdOk X.K c tb f) (T2 : FdOk X.K c tc g) (hv : PE X (.Name x p) (tVar i)) (hz : PE X (.Name y p3) (tVar m)) (hb : attributeBase (.Name x p) f X.env (eval (.Name x p) X.env) = eval (.Name x p) X.env := by rfl) (hb2 : attributeBase (.Name y p3) g X.env (eval (.Name y p3) X.env) = eval (.Name y p3) X.env := by rfl) :
    ST X c W (.Compare (.Attribute (.Name x p) f p1) [.Eq] [.Attribute (.Name y p3) g p4] pos) (tPV2 (pj2 tb tc cEq) (.nm i) (.nm m)) := t_cmp2 T T2 (op_eqD D.un) (by rw [D.K]; exact k_eq) hv hz (nomark _) hb hb2
theorem e_eqF2 (T : FdOk X.K c tb f) (T2 : FdOk X.K c tc g) (hv : PE X (.Name x p) (tVar i)) (hz : PE X (.Name y p3) (tVar m)) (hb : attributeBase (.Name x p) f X.env (eval (.Name x p) X.env) = eval (.Name x p) X.env := by rfl) (hb2 : attributeBase (.Name y p3) g X.env (eval (.Name y p3) X.env) = eval (.Name y p3) X.env := by rfl) :
    SE X c W (.Compare (.Attribute (.Name x p) f p1) [.Eq] [.Attribute (.Name y p3) g p4] pos) (eT (tPV2 (pj2 tb tc cEq) (.nm i) (.nm m))) := e_cmp2 T T2 (op_eqD D.un) (by rw [D.K]; exact k_eq) hv hz (nomark _) hb hb2
theorem t_niFR (T : FdOk X.K c tb f) (hz : PE X (.Name y p3) (tVar m)) (hv : PE X (.Name x p) (tVar i)) (hm : behindInMarks .NotIn (.Attribute (.Name x p) f p1) = false := by rfl) (hb : attributeBase (.Name x p) f X.env (eval (.Name x p) X.env) = eval (.Name x p) X.env := by rfl) :
    ST X c W (.Compare (.Name y p3) [.NotIn] [.Attribute (.Name x p) f p1] pos) (tPV2 (pjr tb cNi) (.nm m) (.nm i)) := t_cmpR T (op_niD D.un) (by rw [D.K]; exact k_in true) hz hv hm hb
theorem e_niFR (T : FdOk X.K c tb f) (hz : PE X (.Name y p3) (tVar m)) (hv : PE X (.Name x p) (tVar i)) (hm : behindInMarks .NotIn (.Attribute (.Name x p) f p1) = false := by rfl) (hb : attributeBase (.Name x p) f X.env (eval (.Name x p) X.env) = eval (.Name x p) X.env := by rfl) :
    SE X c W (.Compare (.Name y p3) [.NotIn] [.Attribute (.Name x p) f p1] pos) (eT (tPV2 (pjr tb cNi) (.nm m) (.nm i))) := e_cmpR T (op_niD D.un) (by rw [D.K]; exact k_in true) hz hv hm hb
theorem t_inFR (T : FdOk X.K c tb f) (hz : PE X (.Name y p3) (tVar m)) (hv : PE X (.Name x p) (tVar i)) (hm : behindInMarks .In (.Attribute (.Name x p) f p1) = false := by rfl) (hb : attributeBase (.Name x p) f X.env (eval (.Name x p) X.env) = eval (.Name x p) X.env := by rfl) :
    ST X c W (.Compare (.Name y p3) [.In] [.Attribute (.Name x p) f p1] pos) (tPV2 (pjr tb cIn) (.nm m) (.nm i)) := t_cmpR T (op_inD D.un) (by rw [D.K]; exact k_in false) hz hv hm hb
theorem e_inFR (T : FdOk X.K c tb f) (hz : PE X (.Name y p3) (tVar m)) (hv : PE X (.Name x p) (tVar i)) (hm : behindInMarks .In (.Attribute (.Name x p) f p1) = false := by rfl) (hb : attributeBase (.Name x p) f X.env (eval (.Name x p) X.env) = eval (.Name x p) X.env := by rfl) :
    SE X c W (.Compare (.Name y p3) [.In] [.Attribute (.Name x p) f p1] pos) (eT (tPV2 (pjr tb cIn) (.nm m) (.nm i))) := e_cmpR T (op_inD D.un) (by rw [D.K]; exact k_in false) hz hv hm hb
end
end Tr
namespace Tr
theorem tgs_nil {Pr : Nat → Prop} : ∀ k', ([] : List Nat).contains k' = true → Pr k' := fun _ h => by cases h
theorem tgs_cons {Pr : Nat → Prop} {k : Nat} {tg : List Nat} (h : Pr k) (r : ∀ k', tg.contains k' = true → Pr k') : ∀ k', (k :: tg).contains k' = true → Pr k' := fun k' e => by
  rw [List.contains_cons, Bool.or_eq_true] at e
  rcases e with e | e
  · rw [show k' = k by simpa using e]; exact h
  · exact r k' e
end Tr
namespace Tr
open PySem
theorem nf_same (K : PySem.W.Frag) (C : Addr) : PySem.W.notFirst K C (.ref C) = true := by unfold PySem.W.notFirst; simp
theorem nf_sub {K : PySem.W.Frag} {C D : Addr} (h : PySem.W.subIn K (.ref D) (.ref C) = some false) : PySem.W.notFirst K C (.ref D) = true := by unfold PySem.W.notFirst; rw [h]; simp
theorem kit_same (K : PySem.W.Frag) (C : Addr) : PySem.W.kitOne K (.ref C) (.ref C) = some true := by unfold PySem.W.kitOne; simp
end Tr
set_option Elab.async false
set_option linter.all false
set_option maxRecDepth 100000
set_option maxHeartbeats 4000000
/-! Tr.I11: own x[y] = e that may raise; is of truths. -/
namespace Tr
open PySem PySem.Spec PyProof.Rows L2
/-- its function: e, then x, then y -/
def sPutIE (mt : MT) (i : Nat) (g f : EF) : SF := sDo (eCall (permF [1, 2, 0] [2, 0, 1] (dispX mt)) [.ev f, .nm i, .ev g] [])
def cIsB : PV → PV → Option Bool
  | .bl a, .bl b => some (decide (a = b))
  | _, _ => none
def cNotB : PV → PV → Option Bool
  | .bl a, .bl b => some (!decide (a = b))
  | _, _ => none
section
variable {X : Cx} {c : RC} {W : WX} {fx : Nat → Bool} {j : Nat} {a b : Expr} {oa ob : Opd} {pos p : Pos} {mt : MT}
theorem k_isB : C2 c rIsB cIsB := by
  intro v w z x y H F Q A B g r1 r2 k q
  cases v <;> cases w <;> first | (cases k; done) | skip
  cases k
  cases (show x = _ from r1)
  cases (show y = _ from r2)
  exact ⟨_, _, rfl, rfl, q⟩
theorem k_notB : C2 c rNotB cNotB := by
  intro v w z x y H F Q A B g r1 r2 k q
  cases v <;> cases w <;> first | (cases k; done) | skip
  cases k
  cases (show x = _ from r1)
  cases (show y = _ from r2)
  exact ⟨_, _, rfl, rfl, q⟩
theorem t_isB (D : Ds X c) (ha : SO X c W a oa) (hb : SO X c W b ob) : ST X c W (.Compare a [.Is] [b] pos) (tPV2 cIsB oa ob) := st_cmp op_isBl k_isB ha hb (nomark _)
theorem t_notB (D : Ds X c) (ha : SO X c W a oa) (hb : SO X c W b ob) : ST X c W (.Compare a [.IsNot] [b] pos) (tPV2 cNotB oa ob) := st_cmp op_notBl k_notB ha hb (nomark _)
theorem e_isB (D : Ds X c) (ha : SO X c W a oa) (hb : SO X c W b ob) : SE X c W (.Compare a [.Is] [b] pos) (eT (tPV2 cIsB oa ob)) := se_cmp op_isBl k_isB ha hb (nomark _)
theorem e_notB (D : Ds X c) (ha : SO X c W a oa) (hb : SO X c W b ob) : SE X c W (.Compare a [.IsNot] [b] pos) (eT (tPV2 cNotB oa ob)) := se_cmp op_notBl k_notB ha hb (nomark _)
/-- o[i] = v, with the slots in sight -/
def PSetS (X : Cx) (t : L2.St → TSet) : Prop :=
  ∀ (pins : List (Addr × Obj)) (s : Shared) (σ : L2.St) (H : Hp) (o i v : V) (ov iv u : Value) (Q : Hp → Prop), L2.Inv X pins σ H s → RelV o ov → RelV i iv → RelV v u → t σ o i v H Q →
    wpAny (model X.prog X.w) X.A (setItem ov iv u) (fun _ s' => ∃ H', L2.Inv X pins σ H' s' ∧ Q H') X.xe s
def gSubS (to ti : TE) (t : L2.St → TSet) : TG := fun v σ H Q => to σ H fun o H1 => ti σ H1 fun i H2 => t σ o i v H2 fun H3 => Q σ H3
theorem pg_subS {o i : Expr} {to ti : TE} {t : L2.St → TSet} (ho : PE X o to) (hi : PE X i ti) (hs : PSetS X t)
    (ha : ∀ v, assign (.Subscript o i pos) X.env v = (do
      let ov ← holding [v] (eval o X.env)
      let iv ← holding [v, ov] (eval i X.env)
      standAt pos
      holding [v, ov, iv] (setItem ov iv v)
      release [v, ov, iv] []) := by intro _; rfl) : PG X (.Subscript o i pos) (gSubS to ti t) := by
  refine ⟨fun pins s σ H v u Q I r h => ?_⟩
  rw [ha]
  refine wpAny_bind (wpAny_holding (thn (ho.run pins s σ H _ I h) fun ov s1 ⟨x, H1, I1, r1, q1⟩ => ?_))
  refine wpAny_bind (wpAny_holding (thn (hi.run pins s1 σ H1 _ I1 q1) fun iv s2 ⟨y, H2, I2, r2, q2⟩ => ?_))
  refine wpAny_bind (wpAny_standAt (wpAny_bind (wpAny_holding (thn (hs pins s2 σ H2 x y v ov iv u _ I2 r1 r2 r q2) fun _ s3 ⟨H3, I3, q3⟩ => ?_))))
  exact wpAny_release ⟨σ, H3, I3, q3⟩
def rSetIE (X : Cx) (c : RC) (W : WX) (j : Nat) : L2.St → TSet := fun σ o i v H Q => ∃ k sem pa dx fs, OpOk X c j "__setitem__" 3 k sem ∧ o = .ref pa ∧ H pa = some (.ins (c.cA k) dx fs) ∧ spF c 3 sem [o, i, v] H (fun _ H' => Q H') (fun cls d H' => W cls d σ H')
theorem set_IE (D : Dk X c W j) : PSetS X (rSetIE X c W j) := by
  intro pins s σ H o i v ov iv u Q I ro ri rv h
  obtain ⟨k, sem, pa, dx, fs, O, rfl, hp, sp⟩ := h
  obtain ⟨kk, f, fd, ps, hs, hf, _, hq, F, hr, hbd⟩ := O.ok
  obtain rfl : ov = Value.ref pa := ro
  obtain ⟨ox, od, J⟩ := inst_at I hp
  obtain ⟨m, hF⟩ := I.fr
  have rr : Vals [V.ref pa, i, v] [Value.ref pa, iv, u] := .cons rfl (.cons ri (.cons rv .nil))
  refine PySem.W.ksp_setItem hF I.ok.mod.kin J hq hs hf (wpAny_mono (run_GA (Q := fun _ H' => Q H') F D.gd rfl (D.hr.mono (by omega)) hbd (passAt D.tk σ) I rr sp) (fun r s' z => ?_) fun _ _ z => z)
  obtain ⟨v', H', I', _, q⟩ := z
  exact ⟨H', I', q⟩
theorem ss_putIE {x : Str} {e ek : Expr} {fe fk : EF} {i : Nat} {p1 tp : Pos} (D : Dk X c W j) (hO : OpsOk X c j "__setitem__" 3 mt) (hv : PE X (.Name x p1) (tVar i)) (h : SE X c W e fe) (hk : SE X c W ek fk)
    (ha : ∀ v, assign (.Subscript (.Name x p1) ek tp) X.env v = (do
      let ov ← holding [v] (eval (.Name x p1) X.env)
      let iv ← holding [v, ov] (eval ek X.env)
      standAt tp
      holding [v, ov, iv] (setItem ov iv v)
      release [v, ov, iv] []) := by intro _; rfl)
    (hs : swapsWithSole [.Subscript (.Name x p1) ek tp] e pos.line X.env = pure false := by rfl) (hw : swappedStores [.Subscript (.Name x p1) ek tp] e X.env = pure none := by rfl)
    (h1 : (assignEach [.Subscript (.Name x p1) ek tp] X.env).map (·.2) = [assign (.Subscript (.Name x p1) ek tp) X.env] := by rfl) :
    SS c W fx X (.Assign [.Subscript (.Name x p1) ek tp] e pos) (sPutIE mt i fk fe) := by
  refine PS.weak (ps_asg h (pg_subS hv hk (set_IE D) ha) hs hw h1) fun En σ H q => ?_
  have q0 : tEx c W (eCall (permF [1, 2, 0] [2, 0, 1] (dispX mt)) [.ev fe, .nm i, .ev fk] []) σ H (fun _ H1 => En.nx σ H1) := by
    refine tS.expr (rel := relE c) (k := fun _ ρ1 => .nx ρ1) q fun v y ρ1 H1 F1 a1 e1 g1 d r re1 p1 => ?_
    exact p1 σ H1 F1 e1 (Stp.refl.drop Sub.r) (g1.sub Sub.r) re1 Keep.refl
  have q1 := call_q (n := 3) (dvs := []) (dps := []) (fun _ _ => (rfl : ([] : List V) = [])) rfl q0
  refine tG.imp (show tEx c W fe σ H fun y H1 => tVar i σ H1 fun x H2 => tEx c W fk σ H2 fun z H3 => spF c 3 (permF [1, 2, 0] [2, 0, 1] (dispX mt)) ([y, x, z] ++ []) H3 (fun _ H1 => En.nx σ H1) (fun cls d H' => W cls d σ H') from q1) fun y H1 hy => ?_
  obtain ⟨xv, hx, hy⟩ := hy
  refine ⟨xv, hx, tG.imp hy fun z H3 hz => ?_⟩
  rw [List.append_nil] at hz
  have hz3 : spF c 3 (dispX mt) [xv, z, y] H3 (fun _ H1 => En.nx σ H1) (fun cls d H' => W cls d σ H') := spF_perm perm3 hz
  obtain ⟨k, sem, pa, dx, fs, xs', hk', ex, hp, sp⟩ := spF_disp hz3
  cases ex
  exact ⟨k, sem, pa, dx, fs, hO k sem hk', rfl, hp, sp⟩
end
end Tr
set_option Elab.async false
set_option linter.all false
set_option maxRecDepth 100000
set_option maxHeartbeats 4000000
/-! Tr.I12: list(text). -/
namespace Tr
open PySem PySem.Spec PyProof.Rows L2
def fListS : PV → Option PV
  | .str z => some (.lst true (z.cps.toList.map fun c => .str ⟨#[c]⟩))
  | v => fList v
theorem sOk_one {d : Nat} (h : d < 0x110000) : sOk ⟨#[d]⟩ = true := by
  unfold sOk
  rw [Bool.and_eq_true, decide_eq_true_eq]
  refine ⟨(by decide : 1 ≤ big), ?_⟩
  simpa using h
theorem sOk_mem {z : Str} (h : sOk z = true) : ∀ d ∈ z.cps.toList, d < 0x110000 := fun d hd => by
  unfold sOk at h
  rw [Bool.and_eq_true, ← Array.all_toList, List.all_eq_true] at h
  simpa using h.2 d hd
theorem vals_signs {acc : List Value} {cs : List Nat} (hl : acc.length = cs.length) (h : ∀ (j : Nat) (v : Value), acc[j]? = some v → ∃ c u, cs[j]? = some c ∧ v = .str ⟨#[c]⟩ u) : Vals (cs.map fun c => V.str ⟨#[c]⟩) acc := by
  induction cs generalizing acc with
  | nil => cases acc with
    | nil => exact .nil
    | cons => simp at hl
  | cons c cs ih => cases acc with
    | nil => simp at hl
    | cons v acc =>
      obtain ⟨d, u, e1, e2⟩ := h 0 v rfl
      simp at e1
      subst e1
      exact .cons ⟨u, e2⟩ (ih (by simpa using hl) fun j w e => by simpa using h (j + 1) w (by simpa using e))
section
variable {X : Cx} {c : RC} {W : WX} {a : Expr} {oa : Opd} {pos p : Pos}
def rListA (K : PySem.W.Frag) : List V → Hp → VK → Prop := fun xs H Q => (∃ z : Str, xs = [.str z] ∧ z.cps.size ≤ sizeLine ∧ ∀ l, H l = none → Q (.ref l) (upd H l (.lst (z.cps.toList.map fun c => V.str ⟨#[c]⟩)))) ∨
  ∃ p ys, xs = [.ref p] ∧ (SqL K H p ys ∨ SqT K H p ys) ∧ ∀ l, H l = none → Q (.ref l) (upd H l (.lst ys))
theorem cr_listS (hc : X.calm = true) : CallR X (.type "list") (fun xs H Q => ∃ z : Str, xs = [.str z] ∧ z.cps.size ≤ sizeLine ∧ ∀ l, H l = none → Q (.ref l) (upd H l (.lst (z.cps.toList.map fun c => V.str ⟨#[c]⟩)))) := by
  intro pins s σ H xs us Q I r h
  obtain ⟨z, rfl, hz, q⟩ := h
  obtain ⟨u, rfl, t, rfl⟩ := vals1 r
  refine call_list_str (I.ok.hd hc) z t (fun h' tk acc c' kp e hi => ?_) hz
  have hv : Vals (z.cps.toList.map fun c => V.str ⟨#[c]⟩) acc.toList := vals_signs (by simpa using hi.1) fun j v hj => by
    obtain ⟨c, u, e1, e2⟩ := hi.2 j v (by simpa using hj)
    exact ⟨c, u, by simpa using e1, e2⟩
  refine ⟨.ref s.heap.objs.size, upd H s.heap.objs.size (.lst (z.cps.toList.map fun c => V.str ⟨#[c]⟩)), I.laid (t' := tk) kp (Nat.le_refl _) ?_, rfl, q _ (I.hok.fresh (Nat.le_refl _))⟩
  exact ⟨by simpa using hz, acc.toList, c', hv, by simpa using e⟩
theorem k_listA : K1 c (fun v => rListA c.K [v]) fListS := by
  intro v z x H F Q A g r k q
  cases v with
  | str y =>
    obtain ⟨rfl, hs⟩ := r
    cases k
    have l : y.cps.size ≤ sizeLine := by
      unfold sOk at hs
      rw [Bool.and_eq_true, decide_eq_true_eq] at hs
      exact hs.1
    have rs : ∀ cs : List Nat, (∀ d ∈ cs, d < 0x110000) → Rs c H F (cs.map fun d => PV.str ⟨#[d]⟩) (cs.map fun d => V.str ⟨#[d]⟩) Emp := by
      intro cs
      induction cs with
      | nil => intro _; rfl
      | cons d cs ih => exact fun hd => ⟨_, _, Emp, Emp, rfl, Sub.emp, Sub.emp, Dis.empl, ⟨rfl, sOk_one (hd d List.mem_cons_self)⟩, ih fun e he => hd e (List.mem_cons_of_mem _ he)⟩
    exact .inl ⟨y, rfl, l, fun pp hp => q.lst g (rs _ (sOk_mem hs)) (by rw [List.length_map, Array.length_toList]; exact l) hp⟩
  | _ => exact .inr (k_list (c := c) _ z x H F Q A g r k q)
theorem e_listS {k : Nat} (D : Dk X c W k) (hm : X.mg "list" = none) (hg : Gl X "list") (ha : SO X c W a oa) (st : starEach [a] X.env = (false, eval a X.env) :: starEach [] X.env := by rfl) (he : (backTo pos (starEach [] X.env)).any (·.1) = false := by rfl) : SE X c W (.Call (.Name "list" p) [a] [] pos) (eP1 fListS oa) :=
  se_ty1 (r := rListA X.K) ((cr_listS D.calm).or call_list_of) (by rw [D.K]; exact k_listA) hg hm (by decide +kernel) ha (by decide) (by decide) st he
end
end Tr
set_option Elab.async false
set_option linter.all false
set_option maxRecDepth 100000
set_option maxHeartbeats 4000000
/-! Tr.I13: == of data, two empty dicts too. -/
namespace Tr
open PySem PySem.Spec PyProof.Rows L2
def cEqE : PV → PV → Option Bool
  | .dct _ [] [], .dct _ [] [] => some true
  | v, w => cEq v w
section
variable {X : Cx} {c : RC} {W : WX} {a b : Expr} {oa ob : Opd} {pos : Pos}
def rEqE : R2 := fun x y H Q => ∃ a b, x = .ref a ∧ y = .ref b ∧ Rd H a (.dK []) ∧ Rd H b (.dK []) ∧ Q (.bl true) H
theorem op_eqE (hu : X.A.units < cLine) : OpR X (compareOp .Eq) rEqE := by
  intro pins s σ H x y v u Q I rx ry h
  obtain ⟨a, b, rfl, rfl, ea, eb, q⟩ := h
  obtain rfl : v = Value.ref a := rx
  obtain rfl : u = Value.ref b := ry
  obtain ⟨_, ya, va, ra, da⟩ := (show ObjOk X.prog X.w H s.heap a (.dK []) from ea.ok I.hok)
  obtain ⟨_, yb, vb, rb, db⟩ := (show ObjOk X.prog X.w H s.heap b (.dK []) from eb.ok I.hok)
  have hl : va.length = vb.length := by rw [← ra.length, ← rb.length]
  exact PySem.W.keq_eq (knd := mixKind X.prog X.w) (r := true) ya yb da db hu (fun _ => hits_all rb ra (fun p hp => by cases hp)) (fin_bl I q (by simp [hl]))
theorem k_eqE : C2 c (fun x y H Q => rEqD c.K x y H Q ∨ rEqE x y H Q) cEqE := by
  intro v w z x y H F Q A B g r1 r2 k q
  unfold cEqE at k
  split at k
  · cases k
    obtain ⟨p1, vs1, b1, rfl, q1, l1, _, _, rs1⟩ := r1.dctR
    obtain ⟨p2, vs2, b2, rfl, q2, l2, _, _, rs2⟩ := r2.dctR
    rw [List.zip_nil_left] at q1 q2
    exact .inr ⟨p1, p2, rfl, rfl, q1, q2, q⟩
  · exact .inl (k_eq (c := c) v w z x y H F Q A B g r1 r2 k q)
theorem t_eqE (D : Ds X c) (ha : SO X c W a oa) (hb : SO X c W b ob) : ST X c W (.Compare a [.Eq] [b] pos) (tPV2 cEqE oa ob) := st_cmp ((op_eqD D.un).or (op_eqE (by have := D.un; omega))) (by rw [D.K]; exact k_eqE) ha hb (nomark _)
theorem e_eqE (D : Ds X c) (ha : SO X c W a oa) (hb : SO X c W b ob) : SE X c W (.Compare a [.Eq] [b] pos) (eT (tPV2 cEqE oa ob)) := se_cmp ((op_eqD D.un).or (op_eqE (by have := D.un; omega))) (by rw [D.K]; exact k_eqE) ha hb (nomark _)
end
end Tr
set_option Elab.async false
set_option linter.all false
set_option maxRecDepth 100000
set_option maxHeartbeats 4000000
/-! Tr.D: defs and classes with default arguments; classes called with keywords. -/
namespace Tr
open PySem PySem.Spec PyProof.Rows L2
section
variable {P : Program} {w : World} {K : PySem.W.Frag} {mg : Str → Option Value} {base : Heap} {c : RC}
/-- a def of the text, whatever its defaults are -/
theorem okGD {x qual : Str} {st : Stmt} {f : Addr} {fd : FuncData} {N ps : List Str} {k : Nat} {sp : Sp} {dvs : List V} {kws : List (Str × V)} (F : FunD K x qual (defArgs st) (defBody st) (defScope st) dvs kws f fd) (S : FnScope N ps (defScope st)) (len : ∀ vs H Q E, sp vs H Q E → vs.length = ps.length)
    (hb : ∀ (cdv : Value) (A : Around) (outer : List PySem.Env) (s : Shared) (H : Hp) (vs : List V) (Q : VK) (E : XK), A.guards = some [] → Room k (A.deeper (envOfC qual (defScope st) s.heap.objs.size f cdv)) → sp vs H Q E →
      ∃ t, PSs (cxOf (L2.CX P w) P w K mg base N qual (defScope st) f cdv A outer s H E) (defBody st) t ∧ t { nx := fun _ H' => Q .non H', rt := Q } (L2.start N vs) H) : FnG P w K mg base (L2.CX P w) (k + 1) f fd ps sp := by
  obtain ⟨oc, od, dV, kV, doc, pm, an, cdv, ct, osl, rfl, lk, hcd, _, _⟩ := F.ex
  refine ⟨len, fun A gA outer s H args us vs Q E room env bind rel want => ?_⟩
  have n := len _ _ _ _ want
  have inK : K.In s.heap := env.mod.kin.keeps fun b o e => (env.bs b o e).1
  have nolim : s.heap.NoLimit := env.mod.nolimit.keeps fun b o e => (env.bs b o e).1
  have kinds : ∀ y ∈ ps.zip us, (defScope st).names.lookup y.1 = some .local ∨ ((defScope st).names.lookup y.1 = some .cell ∧ ((cellsFrom (s.heap.objs.size + 1) (defScope st).names []).lookup y.1).isSome = true) := fun y hy => (S.par y.1 (List.of_mem_zip (a := y.1) (b := y.2) hy).1).imp id fun q => ⟨q, PySem.W.cellsFrom_some _ _ _ (.inl q)⟩
  refine codeAny_call_function room.depth (inK _ _ lk) rfl S.co S.gen rfl (PySem.W.codeRec_of inK hcd) (bind _ _ _ _ (wpAny_newFunctionEnv_cells S.kind kinds fun env' e s1 x => ?_))
  subst e
  obtain ⟨t, ht, q⟩ := hb cdv A outer s H vs Q E gA (room.deeper _) want
  refine ⟨nolim.keeps x.toInCall.keep, codeAny_func (wpAny_mono (ht.run [] s1 (L2.start N vs) H _ (inv_start S room.hd env n rel x) q) (fun fl s' a => ?_) fun e s' a => a)⟩
  cases fl with
  | ret u => obtain ⟨v, σ', H', J, rv, q⟩ := a; exact ⟨v, H', J.os, J.bare, J.base, J.hok, rv, q⟩
  | next => obtain ⟨σ', H', J, q⟩ := a; exact ⟨V.non, H', J.os, J.bare, J.base, J.hok, rfl, q⟩
  | brk => obtain ⟨_, _, _, q⟩ := a; exact False.elim q
  | cont => obtain ⟨_, _, _, q⟩ := a; exact False.elim q
/-- THE RULE for a def with defaults -/
theorem ok_defD {x qual : Str} {st : Stmt} {f : Addr} {fd : FuncData} {N ps : List Str} {k : Nat} {sem : SF} {dvs : List V} {kws : List (Str × V)} (fx : List Bool) (hK : K = c.K) (Fn : FunD K x qual (defArgs st) (defBody st) (defScope st) dvs kws f fd) (S : FnScope N ps (defScope st)) (hl : fx.length = ps.length) (hN : ps.length ≤ N.length)
    (body : ∀ (X : Cx) (W : WX), (∃ cdv A outer s H E, X = cxOf (L2.CX P w) P w K mg base N qual (defScope st) f cdv A outer s H E) → Dk X c W k → SSs c W (fxOf fx) X (defBody st) sem) :
    FnG P w K mg base (L2.CX P w) (k + 1) f fd ps (spF c ps.length (mk fx N.length sem)) := by
  refine okGD Fn S (fun vs H Q E h => h.1) fun cdv A outer s H vs Q E gA hr h => ?_
  obtain ⟨l, as, F, A0, g, r, p⟩ := h
  refine ⟨_, body _ (fun cls d _ H' => E cls d H') ⟨cdv, A, outer, s, H, E, rfl⟩ ⟨hK, hr, rfl, S.nd, takes_of rfl rfl rfl rfl, passes_of rfl, gA⟩, ?_⟩
  have las : as.length = vs.length := by rw [r.len]
  have est : L2.start N vs = vs.map some ++ List.replicate (N.length - fx.length) none := by
    unfold L2.start
    rw [l, hl]
  refine ⟨as.map some ++ List.replicate (N.length - fx.length) none, F, A0, g, by rw [est]; exact RE.start _ r, ?_⟩
  unfold mk at p
  rw [if_pos (by rw [las, l, hl])] at p
  have up : ∀ {H' : Hp} {F' b : AS}, Stp H F A0 H' F' b → ∀ (v : PV) (x : V), R c H F v x Emp → R c H' F' v x Emp := fun t v x q => q.step g t Dis.empl
  have kp : ∀ {σ' : L2.St}, Keep (fxOf fx) (L2.start N vs) σ' → ∀ i, fx.getD i false = true → σ'[i]? = (vs.map some)[i]? := fun {σ'} q i z => by
    rw [q.at_ i z, est]
    have hi : i < fx.length := by
      rcases Nat.lt_or_ge i fx.length with h | h
      · exact h
      · rw [List.getD_eq_getElem?_getD, List.getElem?_eq_none h] at z; cases z
    rw [List.getElem?_append_left (by rw [List.length_map, l, ← hl]; exact hi)]
  have lv : vs.length = fx.length := by rw [l, hl]
  cases q : sem (as.map some ++ List.replicate (N.length - fx.length) none) with
  | nx ρ' =>
    simp only [q] at p
    intro σ' H' F' b t g1 e1 kk
    unfold fin at p
    cases o : outs fx as ρ' with
    | none => simp only [o] at p
    | some ws =>
      simp only [o] at p
      exact p .non H' F' Emp b (t.drop (Sub.uni Sub.emp (Sub.refl _))) (g1.sub (Sub.uni Sub.emp (Sub.refl _))) Dis.empl rfl (outs_ok o e1 (kp kk) r lv (up t))
  | rt v ρ' =>
    simp only [q] at p
    intro x σ' H' F' a b t g1 d rv e1 kk
    unfold fin at p
    cases o : outs fx as ρ' with
    | none => simp only [o] at p
    | some ws =>
      simp only [o] at p
      exact p x H' F' a b t g1 d rv (outs_ok o e1 (kp kk) r lv (up t))
  | er x ρ' =>
    simp only [q] at p
    intro cls d σ' H' F' b t g1 rx e1 kk
    unfold finE at p
    cases o : outs fx as ρ' with
    | none => simp only [o] at p
    | some ws =>
      simp only [o] at p
      exact p cls d H' F' b t g1 rx (outs_ok o e1 (kp kk) r lv (up t))
  | bk ρ' => simp only [q] at p
  | ct ρ' => simp only [q] at p
  | bad => simp only [q] at p
end
/-! ### defaults -/
/-- what stands as defaults: trees of no footprint -/
structure DfOk (c : RC) (dps : List PV) (dvs : List V) : Prop where
  r : ∀ H F, Rs c H F dps dvs Emp
theorem dfok_nil {c : RC} : DfOk c [] [] := ⟨fun _ _ => rfl⟩
theorem dfok_cons {c : RC} {d : PV} {v : V} {dps : List PV} {dvs : List V} (h : ∀ H F, R c H F d v Emp) (r : DfOk c dps dvs) : DfOk c (d :: dps) (v :: dvs) := ⟨fun H F => ⟨v, dvs, Emp, Emp, rfl, Sub.refl _, Sub.refl _, Dis.empl, h H F, r.r H F⟩⟩
theorem df_non {c : RC} : ∀ H F, R c H F .non .non Emp := fun _ _ => rfl
theorem df_bl {c : RC} {b : Bool} : ∀ H F, R c H F (.bl b) (.bl b) Emp := fun _ _ => rfl
theorem df_int {c : RC} {i : Int} : ∀ H F, R c H F (.int i) (.int i) Emp := fun _ _ => rfl
theorem df_str {c : RC} {x : Str} (h : sOk x = true) : ∀ H F, R c H F (.str x) (.str x) Emp := fun _ _ => ⟨rfl, h⟩
theorem df_tup0 {c : RC} {a : Addr} {n : Nat} {sl : Array (Option Value)} (l : c.K.lookup a = some ⟨.type "tuple", none, .seq #[] n, sl⟩) : ∀ H F, R c H F (.tup []) (.ref a) Emp :=
  fun H F => ⟨a, [], rfl, ⟨.inr ⟨_, #[], n, l, ⟨rfl, rfl⟩, rfl, Nat.zero_le _, .nil⟩, Nat.zero_le _⟩, rfl⟩
theorem Rs.gP {c : RC} {H : Hp} {F : AS} {xs : List PV} {vs : List V} (r : Rs c H F xs vs Emp) : ∀ J : List Nat, Rs c H F (gP J xs) (gP J vs) Emp
  | [] => rfl
  | i :: J => by
    have l := r.len
    by_cases h : i < xs.length
    · have h2 : i < vs.length := by omega
      obtain ⟨v, b, e1, s1, rv⟩ := r.get (List.getElem?_eq_getElem h)
      rw [List.getElem?_eq_getElem h2] at e1; cases e1
      have a1 : Tr.gP (i :: J) xs = xs[i] :: Tr.gP J xs := by unfold Tr.gP; simp only [List.filterMap_cons, List.getElem?_eq_getElem h]
      have a2 : Tr.gP (i :: J) vs = vs[i] :: Tr.gP J vs := by unfold Tr.gP; simp only [List.filterMap_cons, List.getElem?_eq_getElem h2]
      rw [a1, a2]
      exact ⟨_, _, Emp, Emp, rfl, Sub.refl _, Sub.refl _, Dis.empl, R.mono rv s1, Rs.gP r J⟩
    · have a1 : Tr.gP (i :: J) xs = Tr.gP J xs := by unfold Tr.gP; simp only [List.filterMap_cons, List.getElem?_eq_none (Nat.le_of_not_lt h)]
      have a2 : Tr.gP (i :: J) vs = Tr.gP J vs := by unfold Tr.gP; simp only [List.filterMap_cons, List.getElem?_eq_none (show vs.length ≤ i by omega)]
      rw [a1, a2]
      exact Rs.gP r J
/-- a def with defaults, as the text's head leaves it -/
def DTx (K : PySem.W.Frag) (mg : Str → Option Value) (c : RC) (x : Str) (st : Stmt) (dps : List PV) (f : Addr) (fd : FuncData) : Prop :=
  mg x = some (.ref f) ∧ ∃ dvs, FunD K x x (defArgs st) (defBody st) (defScope st) dvs [] f fd ∧ dvs ≠ [] ∧ DfOk c dps dvs
def DefD (P : Program) (w : World) (K : PySem.W.Frag) (mg : Str → Option Value) (base : Heap) (c : RC) (k : Nat) (x : Str) (st : Stmt) (ps : List Str) (dps : List PV) (sem : FF) : Prop :=
  ∃ f fd, DTx K mg c x st dps f fd ∧ FnG P w K mg base (L2.CX P w) k f fd ps (spF c ps.length sem)
/-- a method with defaults -/
def MTxD (K : PySem.W.Frag) (c : RC) (k : Nat) (m qual : Str) (st : Stmt) (dps : List PV) (f : Addr) (fd : FuncData) : Prop :=
  PySem.W.findIn K (.ref (c.cA k)) m = some (some (.ref f)) ∧ PySem.W.isFn K (.ref f) = true ∧ PySem.W.fnIn K f = true ∧ ∃ dvs, FunD K m qual (defArgs st) (defBody st) (defScope st) dvs [] f fd ∧ dvs ≠ [] ∧ DfOk c dps dvs
def MDefD (P : Program) (w : World) (K : PySem.W.Frag) (mg : Str → Option Value) (base : Heap) (c : RC) (lv k : Nat) (m qual : Str) (st : Stmt) (ps : List Str) (dps : List PV) (sem : FF) : Prop :=
  ∃ f fd, MTxD K c k m qual st dps f fd ∧ FnG P w K mg base (L2.CX P w) lv f fd ps (spF c ps.length sem)
/-- how n values, keywords named ks and the defaults at J bind -/
def KwX (m qual : Str) (st : Stmt) (ps : List Str) (nd n : Nat) (ks : List Str) (J pp : List Nat) : Prop := ∀ (T : Addr) (kV doc pm : Value) (an : Option Addr) (cdv ct : Value) (us ws its : List Value), us.length = n → ws.length = ks.length → its.length = nd →
  ∃ k, bindArgs (PySem.W.fnOf m qual (defArgs st) (defBody st) (defScope st) (.ref T) kV doc pm an cdv ct) ⟨us, ks.zip ws⟩ = seqItems? (.ref T) >>= k ∧ k (some its.toArray) = pure (ps.zip (gP pp ((us ++ ws) ++ gP J its)))
theorem bindsX {K : PySem.W.Frag} {m qual : Str} {st : Stmt} {ps ks : List Str} {dvs : List V} {f : Addr} {fd : FuncData} {n : Nat} {J pp : List Nat} (F : FunD K m qual (defArgs st) (defBody st) (defScope st) dvs [] f fd) (hd : dvs ≠ []) {nd : Nat} (hn : dvs.length = nd) (hb : KwX m qual st ps nd n ks J pp) :
    ∃ its, Vals dvs its ∧ ∀ (s : Shared) (us ws : List Value), K.In s.heap → us.length = n → ws.length = ks.length → BindsTo s fd ⟨us, ks.zip ws⟩ (ps.zip (gP pp ((us ++ ws) ++ gP J its))) := by
  obtain ⟨oc, od, dV, kV, doc, pm, an, cdv, ct, osl, rfl, lk, hcd, hD, hK⟩ := F.ex
  rcases hD with ⟨e, _⟩ | ⟨_, T, o, its, z, rfl, lT, oT, rT⟩
  · exact absurd e hd
  · refine ⟨its, rT, fun s us ws X l1 l2 => ?_⟩
    obtain ⟨k, e1, e2⟩ := hb T kV doc pm an cdv ct us ws its l1 l2 (by rw [← hn, rT.length])
    refine BindsTo.of_looks fun M => ?_
    rw [e1]
    exact looks_items X lT oT (.of_pure e2)
section
variable {X : Cx} {c : RC} {W : WX} {j lv k n nd : Nat} {x m : Str} {p pos : Pos} {e o : Expr} {es : List Expr} {os os2 : List Opd} {oo : Opd} {sem : FF} {qual : Str} {st : Stmt} {ps ks : List Str} {kws : List Keyword} {pp qq J : List Nat} {dps : List PV}
/-! ### f(e, .., k = v, ..) -/
theorem callX_q {dvs : List V} (hd : DfOk c dps dvs) (hp : PermOk n pp qq) (hn : os.length + os2.length + (gP J dps).length = n) {σ : L2.St} {H : Hp} {Q : VK} (q : tEx c W (eCall (permF pp qq sem) (os ++ os2) (gP J dps)) σ H Q) :
    tOs c W os σ H fun xs H1 => xs.length = os.length ∧ tOs c W os2 σ H1 fun ys H2 => ys.length = os2.length ∧ spF c n sem (gP pp ((xs ++ ys) ++ gP J dvs)) H2 Q (fun cls d H' => W cls d σ H') := by
  have q1 := call_q (n := n) (fun H F => (hd.r H F).gP J) (by rw [List.length_append]; exact hn) q
  refine (tOs.two q1).imp fun xs H1 h => ⟨h.1, (tOs.len h.2).imp fun ys H2 h2 => ⟨h2.1, spF_perm hp h2.2⟩⟩
theorem e_callX (D : Dk X c W j) (G : DefD X.prog X.w X.K X.mg X.base c k x st ps dps sem) (hr : k ≤ j) (hg : Gl X x) (hb : KwX x x st ps nd os.length ks J pp) (hnd : dps.length = nd) (hks : ks.length = os2.length) (hp : PermOk ps.length pp qq) (hn : os.length + os2.length + (gP J dps).length = ps.length)
    (ha : SOs X c W (e :: es) os) (hkw : SK X c W kws os2) (hall : (backToKw pos (keywordEach kws X.env)).all (·.1.isSome) = true := by rfl) (he : (backToKw pos (keywordEach kws X.env)).filterMap (·.1) = ks := by rfl) (hdb : (x == ("__debug__" : Str)) = false := by decide)
    (hst : starEach (e :: es) X.env = (false, eval e X.env) :: starEach es X.env := by rfl)
    (hpl : ((backTo pos (starEach (e :: es) X.env)).any (·.1) || (backToKw pos (keywordEach kws X.env)).any (·.1.isNone)) = false := by rfl) :
    SE X c W (.Call (.Name x p) (e :: es) kws pos) (eCall (permF pp qq sem) (os ++ os2) (gP J dps)) := by
  obtain ⟨f, fd, ⟨h1, dvs, h2, h3, hd⟩, h4⟩ := G
  have ld : dvs.length = nd := by rw [← hnd, (hd.r (fun _ => none) Emp).len]
  obtain ⟨its, rT, hB⟩ := bindsX h2 h3 ld hb
  refine ⟨fun pins s σ H Q I h => ?_⟩
  refine wpAny_Call_Name_kw (ld_glob I hg h1 ?_ hdb)
  have h' := callX_q hd hp hn h
  refine PySem.W.callWith_KW (h₀ := X.base) I.ok.mod.kin h2.kp hall (thn (ha.run pos pins s σ H _ I h') fun us s1 ⟨vs, H1, I1, r, hl1, q⟩ => ?_) hpl hst
  refine thn (hkw.run pos pins s1 σ H1 _ I1 q) fun ws s2 ⟨zs, H2, I2, rz, hl, q2⟩ => ⟨I2.kIn, ?_⟩
  rw [he]
  exact run_G (args := ⟨us, ks.zip ws⟩) h4 D.gd (D.hr.mono hr) (fun _ => hB s2 us ws I2.kIn (by rw [← r.length, hl1]) (by rw [← rz.length, hl, hks])) (passAt D.tk σ) I2 (Tr.Vals.perm ((r.append rz).append (Tr.Vals.perm rT J)) pp) q2
theorem e_callX0 (D : Dk X c W j) (G : DefD X.prog X.w X.K X.mg X.base c k x st ps dps sem) (hr : k ≤ j) (hg : Gl X x) (hb : KwX x x st ps nd 0 ks J pp) (hnd : dps.length = nd) (hks : ks.length = os2.length) (hp : PermOk ps.length pp qq) (hn : os2.length + (gP J dps).length = ps.length)
    (hkw : SK X c W kws os2) (hall : (backToKw pos (keywordEach kws X.env)).all (·.1.isSome) = true := by rfl) (he : (backToKw pos (keywordEach kws X.env)).filterMap (·.1) = ks := by rfl) (hdb : (x == ("__debug__" : Str)) = false := by decide)
    (hpl : ((backTo pos (starEach [] X.env)).any (·.1) || (backToKw pos (keywordEach kws X.env)).any (·.1.isNone)) = false := by rfl) :
    SE X c W (.Call (.Name x p) [] kws pos) (eCall (permF pp qq sem) os2 (gP J dps)) := by
  obtain ⟨f, fd, ⟨h1, dvs, h2, h3, hd⟩, h4⟩ := G
  have ld : dvs.length = nd := by rw [← hnd, (hd.r (fun _ => none) Emp).len]
  obtain ⟨its, rT, hB⟩ := bindsX h2 h3 ld hb
  refine ⟨fun pins s σ H Q I h => ?_⟩
  refine wpAny_Call_Name_kw (ld_glob I hg h1 ?_ hdb)
  refine PySem.W.callWith_KW0 (h₀ := X.base) I.ok.mod.kin h2.kp hall ?_ hpl
  have h' := callX_q (os := []) hd hp (by simpa using hn) h
  refine thn (hkw.run pos pins s σ H _ I h'.2) fun ws s2 ⟨zs, H2, I2, rz, hl, q2⟩ => ⟨I2.kIn, ?_⟩
  rw [he]
  exact run_G (args := ⟨[], ks.zip ws⟩) h4 D.gd (D.hr.mono hr) (fun _ => hB s2 [] ws I2.kIn rfl (by rw [← rz.length, hl, hks])) (passAt D.tk σ) I2 (Tr.Vals.perm (Vals.append (rz) (Tr.Vals.perm rT J)) pp) q2
/-! ### C(e, .., k = v, ..) -/
theorem run_makeX {fI C : Addr} {fd : FuncData} {sp : Sp} {kk : Nat} {E : XK} {pins : List (Addr × Obj)} {σ : L2.St} {H : Hp} {s : Shared} {Q : VK} {us : List Value} {kw : List (Str × Value)} {g : Value → List Value} {gV : V → List V} (M : Mk X.K C fI) (F : FnG X.prog X.w X.K X.mg X.base (L2.CX X.prog X.w) kk fI fd ps sp) (gA : X.A.guards = some []) (hr : Room (kk + 1) X.A)
    (hb : ∀ (s : Shared) (a : Addr), X.K.In s.heap → BindsTo s fd ⟨.ref a :: us, kw⟩ (ps.zip (g (.ref a))))
    (hx : ∀ (pins : List (Addr × Obj)) (H : Hp) (s : Shared) (e : Value) (s' : Shared), L2.Inv X pins σ H s → L2.CX X.prog X.w X.stack H s E e s' → X.xe e s') (I : L2.Inv X pins σ H s) (r : ∀ a, Vals (gV (.ref a)) (g (.ref a)))
    (h : ∀ x dx, H x = none → H dx = none → dx ≠ x → sp (gV (.ref x)) (upd (upd H dx (.own x)) x (.ins C dx [])) (fun v H2 => v = .non ∧ Q (.ref x) H2) E) :
    wpAny (model X.prog X.w) X.A (call (.ref C) us kw) (EP X pins σ Q) X.xe s := by
  have hq := h (s.heap.objs.size + 1) s.heap.objs.size (I.hok.fresh (Nat.le_succ _)) (I.hok.fresh (Nat.le_refl _)) (Nat.ne_of_lt (Nat.lt_succ_self _))
  have J := Inv.made (C := C) I
  refine wpAny_call (make_map (f := fI) I.kIn M.makes M.init (beq_iff_eq.mp M.fn) (codeAny_mono (F.run _ (make_guards gA) X.stack _ _ ⟨Value.ref (s.heap.objs.size + 1) :: us, kw⟩ (g (.ref (s.heap.objs.size + 1))) _ _ E (hr.make C us kw) (J.env0.make C us kw)
    (hb _ _ J.kIn) (r _) hq) fun y s' z => ?_))
  cases y with
  | error er => exact hx pins _ _ er s' J z
  | ok fl =>
    cases fl with
    | ret u =>
      obtain ⟨v, H', I3, rv, ev, q3⟩ := J.after z
      subst ev
      exact ⟨rv, ⟨V.ref (s.heap.objs.size + 1), H', I3, rfl, q3⟩⟩
    | next => exact z.elim
    | brk => exact z.elim
    | cont => exact z.elim
theorem makeX_q {dvs : List V} (hd : DfOk c dps dvs) (hp : PermOk n pp qq) (hn : os.length + os2.length + (gP J dps).length + 1 = n) {σ : L2.St} {H : Hp} {Q : VK} (q : tEx c W (eMake k (permF pp qq sem) (os ++ os2) (gP J dps)) σ H Q) :
    tOs c W os σ H fun xs H1 => xs.length = os.length ∧ tOs c W os2 σ H1 fun ys H2 => ys.length = os2.length ∧ ∀ x dx, H2 x = none → H2 dx = none → dx ≠ x →
      spF c n sem (gP pp (((.ref x :: xs) ++ ys) ++ gP J dvs)) (upd (upd H2 dx (.own x)) x (.ins (c.cA k) dx [])) (fun v H3 => v = .non ∧ Q (.ref x) H3) (fun cls d H' => W cls d σ H') := by
  have q1 := make_q (n := n) (dvs := gP J dvs) (fun H F => (hd.r H F).gP J) (by rw [List.length_append]; exact hn) q
  refine (tOs.two (K := fun vs H1 => ∀ x dx, H1 x = none → H1 dx = none → dx ≠ x → _) q1).imp fun xs H1 h => ⟨h.1, (tOs.len h.2).imp fun ys H2 h2 => ⟨h2.1, fun x dx a b d => ?_⟩⟩
  have := spF_perm hp (h2.2 x dx a b d)
  simpa using this
theorem e_makeX (D : Dk X c W j) (M : MDefD X.prog X.w X.K X.mg X.base c lv k "__init__" qual st ps dps sem) (mk : PySem.W.makesIn X.K (c.cA k) = true) (kp : PySem.W.keepIn X.K (.ref (c.cA k)) = true) (hr : lv + 1 ≤ j) (hg : Gl X x) (hm : X.mg x = some (.ref (c.cA k)))
    (hb : KwX "__init__" qual st ps nd (os.length + 1) ks J pp) (hnd : dps.length = nd) (hks : ks.length = os2.length) (hp : PermOk ps.length pp qq) (hn : os.length + os2.length + (gP J dps).length + 1 = ps.length)
    (ha : SOs X c W (e :: es) os) (hkw : SK X c W kws os2) (hall : (backToKw pos (keywordEach kws X.env)).all (·.1.isSome) = true := by rfl) (he : (backToKw pos (keywordEach kws X.env)).filterMap (·.1) = ks := by rfl) (hdb : (x == ("__debug__" : Str)) = false := by decide)
    (hst : starEach (e :: es) X.env = (false, eval e X.env) :: starEach es X.env := by rfl)
    (hpl : ((backTo pos (starEach (e :: es) X.env)).any (·.1) || (backToKw pos (keywordEach kws X.env)).any (·.1.isNone)) = false := by rfl) :
    SE X c W (.Call (.Name x p) (e :: es) kws pos) (eMake k (permF pp qq sem) (os ++ os2) (gP J dps)) := by
  obtain ⟨f, fd, ⟨h1, h2, h3, dvs, h4, h5, hd⟩, h6⟩ := M
  have ld : dvs.length = nd := by rw [← hnd, (hd.r (fun _ => none) Emp).len]
  obtain ⟨its, rT, hB⟩ := bindsX h4 h5 ld hb
  refine ⟨fun pins s σ H Q I h => ?_⟩
  refine wpAny_Call_Name_kw (ld_glob I hg hm ?_ hdb)
  have h' := makeX_q hd hp hn h
  refine PySem.W.callWith_KW (h₀ := X.base) I.ok.mod.kin kp hall (thn (ha.run pos pins s σ H _ I h') fun us s1 ⟨vs, H1, I1, r, hl1, q⟩ => ?_) hpl hst
  refine thn (hkw.run pos pins s1 σ H1 _ I1 q) fun ws s2 ⟨zs, H2, I2, rz, hl, q2⟩ => ⟨I2.kIn, ?_⟩
  rw [he]
  refine run_makeX (g := fun a => gP pp (((a :: us) ++ ws) ++ gP J its)) (gV := fun a => gP pp (((a :: vs) ++ zs) ++ gP J dvs)) ⟨mk, h1, h2, kp⟩ h6 D.gd (D.hr.mono hr) (fun s a hK => hB s (.ref a :: us) ws hK ?_ ?_) (passAt D.tk σ) I2 (fun a => Tr.Vals.perm (((show Vals (V.ref a :: vs) (Value.ref a :: us) from .cons rfl r).append rz).append (Tr.Vals.perm rT J)) pp) q2
  · rw [List.length_cons, ← r.length, hl1]
  · rw [← rz.length, hl, hks]
theorem e_makeX0 (D : Dk X c W j) (M : MDefD X.prog X.w X.K X.mg X.base c lv k "__init__" qual st ps dps sem) (mk : PySem.W.makesIn X.K (c.cA k) = true) (kp : PySem.W.keepIn X.K (.ref (c.cA k)) = true) (hr : lv + 1 ≤ j) (hg : Gl X x) (hm : X.mg x = some (.ref (c.cA k)))
    (hb : KwX "__init__" qual st ps nd 1 ks J pp) (hnd : dps.length = nd) (hks : ks.length = os2.length) (hp : PermOk ps.length pp qq) (hn : os2.length + (gP J dps).length + 1 = ps.length)
    (hkw : SK X c W kws os2) (hall : (backToKw pos (keywordEach kws X.env)).all (·.1.isSome) = true := by rfl) (he : (backToKw pos (keywordEach kws X.env)).filterMap (·.1) = ks := by rfl) (hdb : (x == ("__debug__" : Str)) = false := by decide)
    (hpl : ((backTo pos (starEach [] X.env)).any (·.1) || (backToKw pos (keywordEach kws X.env)).any (·.1.isNone)) = false := by rfl) :
    SE X c W (.Call (.Name x p) [] kws pos) (eMake k (permF pp qq sem) os2 (gP J dps)) := by
  obtain ⟨f, fd, ⟨h1, h2, h3, dvs, h4, h5, hd⟩, h6⟩ := M
  have ld : dvs.length = nd := by rw [← hnd, (hd.r (fun _ => none) Emp).len]
  obtain ⟨its, rT, hB⟩ := bindsX h4 h5 ld hb
  refine ⟨fun pins s σ H Q I h => ?_⟩
  refine wpAny_Call_Name_kw (ld_glob I hg hm ?_ hdb)
  refine PySem.W.callWith_KW0 (h₀ := X.base) I.ok.mod.kin kp hall ?_ hpl
  have h' := makeX_q (os := []) hd hp (by simpa using hn) h
  refine thn (hkw.run pos pins s σ H _ I h'.2) fun ws s2 ⟨zs, H2, I2, rz, hl, q2⟩ => ⟨I2.kIn, ?_⟩
  rw [he]
  refine run_makeX (us := []) (g := fun a => gP pp ((([a]) ++ ws) ++ gP J its)) (gV := fun a => gP pp (([a] ++ zs) ++ gP J dvs)) ⟨mk, h1, h2, kp⟩ h6 D.gd (D.hr.mono hr) (fun s a hK => hB s [.ref a] ws hK rfl ?_) (passAt D.tk σ) I2 (fun a => Tr.Vals.perm (((show Vals [V.ref a] [Value.ref a] from .cons rfl .nil).append rz).append (Tr.Vals.perm rT J)) pp) q2
  rw [← rz.length, hl, hks]
end
/-! ### the head -/
section
variable {K : PySem.W.Frag} {mg : Str → Option Value} {h : Heap} {c : RC}
theorem dflV {K : PySem.W.Frag} {T : Addr} {its : List Value} {n : Nat} {sl : Array (Option Value)} {dvs : List V} (l : K.lookup T = some ⟨.type "tuple", none, .seq its.toArray n, sl⟩) (r : Vals dvs its) (hn : dvs ≠ []) : DflV K (.ref T) dvs :=
  .inr ⟨hn, T, _, its, n, rfl, l, rfl, r⟩
theorem mkDefD {x : Str} {st : Stmt} {f : Addr} {oc : Value} {od an : Option Addr} {osl : Array (Option Value)} {dV kV doc pm cdv ct : Value} {dps : List PV} {dvs : List V} (X : K.In h) (G : h.Ns mainGlobals mg)
    (a : PySem.W.nsIn K mainGlobals x = some (some (.ref f))) (l : K.lookup f = some ⟨oc, od, .func (PySem.W.fnOf x x (defArgs st) (defBody st) (defScope st) dV kV doc pm an cdv ct), osl⟩)
    (cd : PySem.W.codeIn K cdv x = true) (k : PySem.W.keepIn K (.ref f) = true) (hD : DflV K dV dvs) (hn : dvs ≠ []) (hd : DfOk c dps dvs) : ∃ f fd, DTx K mg c x st dps f fd :=
  ⟨f, _, PySem.W.mg_of X G a, dvs, ⟨⟨_, _, _, _, _, _, _, _, _, _, rfl, l, cd, hD, .inl rfl⟩, k⟩, hn, hd⟩
theorem mkMethD {k : Nat} {m qual : Str} {st : Stmt} {f : Addr} {oc : Value} {od an : Option Addr} {osl : Array (Option Value)} {dV kV doc pm cdv ct : Value} {dps : List PV} {dvs : List V}
    (a : PySem.W.findIn K (.ref (c.cA k)) m = some (some (.ref f))) (fn : PySem.W.isFn K (.ref f) = true) (fi : PySem.W.fnIn K f = true) (l : K.lookup f = some ⟨oc, od, .func (PySem.W.fnOf m qual (defArgs st) (defBody st) (defScope st) dV kV doc pm an cdv ct), osl⟩)
    (cd : PySem.W.codeIn K cdv qual = true) (kp : PySem.W.keepIn K (.ref f) = true) (hD : DflV K dV dvs) (hn : dvs ≠ []) (hd : DfOk c dps dvs) : ∃ f fd, MTxD K c k m qual st dps f fd :=
  ⟨f, _, a, fn, fi, dvs, ⟨⟨_, _, _, _, _, _, _, _, _, _, rfl, l, cd, hD, .inl rfl⟩, kp⟩, hn, hd⟩
end
end Tr
set_option Elab.async false
set_option linter.all false
set_option maxRecDepth 100000
set_option maxHeartbeats 4000000
/-! Tr.D2: != of instances with an own ==; a tuple turned about. -/
namespace Tr
open PySem PySem.Spec PyProof.Rows L2
section
variable {prog : Program} {w : World} {A : Around} {E : Value → Shared → Prop} {s : Shared} {K : PySem.W.Frag} {x C f L : Addr} {ox : Obj} {od : Option Obj} {b tb : Value} {h₀ : Heap} {m : Str → Option Value}
theorem call_objNe {Q : Value → Shared → Prop} (hu : A.in1.units < cLine) (X : K.In s.heap) (I : PySem.W.InstAt s.heap x ox C od) (hm : PySem.W.mroIn K C (.type "object") = some true) (hs : PySem.W.findIn K (.ref C) "__eq__" = some (some (.ref f))) (hf : PySem.W.isFn K (.ref f) = true)
    (h : wpAny (model prog w) A.in1 (call (.ref f) [.ref x, b]) (fun v s' => ∃ r, v = .bool r ∧ Q (.bool (!r)) s') E s) : wpAny (model prog w) A (call (.builtin "object.__ne__") [.ref x, b]) Q E s := by
  refine wpAny_call (codeAny_call_builtin PySem.F.cmp_object.ne.plain PySem.F.cmpEntry_ne (PySem.W.check_slot (i := "object.__ne__") (owner := "object") (n := "__ne__") (by decide +kernel) (by decide +kernel) (I.type.andThen (PySem.W.looks_mroIn X hm)) (PySem.F.cmpArgs_ne _ _) ?_))
  unfold Builtin.«object.__ne__»
  refine wpAny_bind (m := slotArgs "__ne__" 1 _) (wpAny_pure ?_)
  refine wpAny_bind (m := cRoomFor _ _) (wpAny_cRoomFor hu ?_)
  refine wpAny_bind (m := callSpecialIfBound? (.ref x) (Str.ofString "__eq__") _) (PySem.W.ifBound_K X I hs hf (wpAny_mono h (fun r s' hq => ?_) fun _ _ y => y))
  obtain ⟨r, rfl, hq⟩ := hq
  refine wpAny_bind (m := truthy (.bool r)) (wpAny_truthy_bool ?_)
  exact wpAny_pure hq
theorem cmp_neK {Q : Value → Shared → Prop} (hu : A.units + 1 < cLine) (F : Fr h₀ L s.heap m) (X₀ : K.In h₀) (I : PySem.W.InstAt s.heap x ox C od) (hb : PySem.W.Looks (model prog w) s.heap (typeOf b) tb) (hn : PySem.W.notFirst K C tb = true) (hm : PySem.W.mroIn K C (.type "object") = some true)
    (hne : PySem.W.findIn K (.ref C) "__ne__" = some (some (.builtin "object.__ne__"))) (hs : PySem.W.findIn K (.ref C) "__eq__" = some (some (.ref f))) (hf : PySem.W.isFn K (.ref f) = true)
    (h : wpAny (model prog w) A.in1 (call (.ref f) [.ref x, b]) (fun v s' => ∃ r, v = .bool r ∧ Q (.bool (!r)) s') E s) : wpAny (model prog w) A (richCompare .NotEq (.ref x) b) Q E s := by
  have X := X₀.keeps F.keep
  have one : wpAny (model prog w) A (tryCompare (.ref x) (cmpInfo .NotEq).2.1 b) (fun r s' => ∃ v, r = some v ∧ Q v s') E s := by
    unfold tryCompare
    refine wpAny_bind (NtL.csib (I.type.andThen (PySem.W.looks_findIn X hne)) (PySem.F.cmp_object.ne.bind _) (call_objNe (A := A) hu X I hm hs hf (wpAny_mono h (fun v s' hv => ?_) fun _ _ e => e)))
    obtain ⟨r, rfl, hq⟩ := hv
    exact ⟨r, rfl, wpAny_pure ⟨_, rfl, hq⟩⟩
  unfold richCompare
  simp only [oneThing_ref]
  refine wpAny_holding (wpAny_bind (wpAny_cRoomFor (Nat.lt_of_succ_lt hu) ?_))
  refine wpAny_bind (I.type.here (wpAny_bind (hb.here ?_)))
  split
  · rename_i q
    have e : PySem.W.subIn K tb (.ref C) = some false := by
      rcases Bool.or_eq_true_iff.mp hn with e | e
      · rw [beq_iff_eq.mp e] at q; simp at q
      · exact beq_iff_eq.mp e
    refine wpAny_bind ((PySem.W.looks_subIn X e).here ?_)
    simp only [Bool.false_eq_true, if_false]
    refine wpAny_bind (wpAny_mono one (fun r s' z => ?_) fun _ _ e => e)
    obtain ⟨v, rfl, hq⟩ := z
    exact wpAny_pure hq
  · refine wpAny_bind (wpAny_pure ?_)
    simp only [Bool.false_eq_true, if_false]
    refine wpAny_bind (wpAny_mono one (fun r s' z => ?_) fun _ _ e => e)
    obtain ⟨v, rfl, hq⟩ := z
    exact wpAny_pure hq
end
/-- the classes have object's != -/
def NesOk (K : PySem.W.Frag) (c : RC) (mt : MT) : Prop := ∀ k sem, mt.lookup k = some sem → PySem.W.findIn K (.ref (c.cA k)) "__ne__" = some (some (.builtin "object.__ne__")) ∧ PySem.W.mroIn K (c.cA k) (.type "object") = some true
theorem nes_nil {K : PySem.W.Frag} {c : RC} : NesOk K c [] := fun k sem h => by cases h
theorem nes_cons {K : PySem.W.Frag} {c : RC} {k : Nat} {sem : FF} {mt : MT} (h : PySem.W.findIn K (.ref (c.cA k)) "__ne__" = some (some (.builtin "object.__ne__"))) (m : PySem.W.mroIn K (c.cA k) (.type "object") = some true) (r : NesOk K c mt) : NesOk K c ((k, sem) :: mt) := fun k' s' e => by
  rw [List.lookup_cons] at e
  by_cases z : k' = k
  · subst z; exact ⟨h, m⟩
  · rw [show (k' == k) = false by simpa using z] at e
    exact r k' s' e
def rEqI2 (X : Cx) (c : RC) (j : Nat) (tg : List Nat) (mt : MT) : R2 := fun x y H Q => ∃ a k dx fs sem t, x = .ref a ∧ H a = some (.ins (c.cA k) dx fs) ∧ EqOk X c j tg k sem ∧ mt.lookup k = some sem ∧ TyX X.K H y t ∧ PySem.W.notFirst X.K (c.cA k) t = true ∧
  spF c 2 sem [x, y] H (fun v H' => ∃ b, v = .bl b ∧ Q v H') (fun _ _ _ => False)
section
variable {X : Cx} {c : RC} {W : WX} {j j2 : Nat} {tg : List Nat} {a b : Expr} {oa ob : Opd} {pos : Pos} {mt : MT}
theorem eq_q2 {σ : L2.St} {H : Hp} {Q : VK} (D : Ds X c) (A : CTs X.K X.mg c tg) (G : XG X.K) (hE : EqsOk X c j tg mt)
    (q : tTs c W (tEqI tg mt oa ob) σ H fun d H1 => Q (.bl d) H1) : tO c W oa σ H fun x H1 => tO c W ob σ H1 fun y H2 => rEqI2 X c j tg mt x y H2 Q := by
  obtain ⟨ρ, F, A0, gd, e, p⟩ := q
  unfold tEqI at p
  have := tOs.next (os := [oa, ob]) (t := Emp) gd Sub.emp (Sub.refl _) Dis.empl e p (K := fun xs H2 => ∃ x y, xs = [x, y] ∧ rEqI2 X c j tg mt x y H2 Q) fun us xs ρ1 H1 F1 a1 b1 g1 _ d tm e1 s p1 => ?_
  · refine tO.imp this fun x H1 z => tO.imp z fun y H2 z => ?_
    obtain ⟨x', y', e1, z⟩ := z
    cases e1
    exact z
  · cases q1 : takeAll [oa, ob] us ρ1 with
    | none => rw [q1] at p1; exact p1.elim
    | some z =>
      obtain ⟨vs, ρ2⟩ := z
      rw [q1] at p1
      match vs with
      | [v, w] =>
        simp only at p1
        by_cases oth : othOk tg w = true
        · rw [if_pos oth] at p1
          obtain ⟨a2, b2, s1, s2, d2, r, e2⟩ := take_ok tm e1 d q1
          obtain ⟨x, xs', bx, dx', rfl, t1, t2, t3, rx, rxs⟩ := id r
          obtain ⟨y, ys, by_, dy, rfl, t4, t5, t6, ry, rys⟩ := rxs
          obtain rfl : ys = [] := rys
          refine ⟨x, y, rfl, ?_⟩
          cases v with
          | ins wv k vals =>
            cases q3 : mt.lookup k with
            | none => simp only [disp, recv, List.head?_cons, tagOf, Option.bind_some, q3] at p1; exact p1.elim
            | some sem =>
              have E := hE k sem q3
              obtain ⟨pa, dx0, us0, b0, rfl, _, hp, _, _⟩ := rx.insR
              have ty : ∃ t, TyX X.K H1 y t ∧ PySem.W.notFirst X.K (c.cA k) t = true := by
                obtain ⟨kk, f, fd, ps, _, _, _, _, _, nf⟩ := E.ok
                have data : ∀ T', tyS w = some T' → ∃ t, TyX X.K H1 y t ∧ PySem.W.notFirst X.K (c.cA k) t = true := fun T' ht =>
                  ⟨.type T', by rw [D.K]; exact tyx_S ry ht, by unfold PySem.W.notFirst; rw [tyS_ok ht]; simp⟩
                cases w with
                | ins w2 k2 vals2 =>
                  obtain ⟨x2, T2⟩ := A k2 oth
                  obtain ⟨pb, dx2, us2, b2', rfl, _, hp2, _, _⟩ := ry.insR
                  exact ⟨.ref (c.cA k2), .base (.ins hp2 T2.cl T2.ca G.sp G.tk T2.mo), nf k2 oth⟩
                | non => exact data _ rfl
                | bl _ => exact data _ rfl
                | int _ => exact data _ rfl
                | str _ => exact data _ rfl
                | tup _ => exact data _ rfl
                | lst _ _ => exact data _ rfl
                | dct _ _ _ => exact data _ rfl
                | con _ => cases oth
                | exc _ _ => cases oth
              obtain ⟨t, ty, nf⟩ := ty
              refine ⟨pa, k, dx0, _, sem, t, rfl, hp, E, q3, ty, nf, ?_⟩
              have p2 : Post c W relB σ H1 F1 (Uni Emp (Uni a1 b1)) (match takeAll [oa, ob] us ρ1 with | none => .bad | some (vs, ρ2) => match sem (vs ++ []) with
                | .ok (.bl r) ws => .ok r (giveAll [oa, ob] vs ws ρ2)
                | _ => .bad) (fun d H1 => Q (.bl d) H1) := by
                rw [q1]
                simp only [disp, recv, List.head?_cons, tagOf, Option.bind_some, q3, List.append_nil] at p1 ⊢
                cases q4 : sem [PV.ins wv k vals, w] with
                | ok v' ws => rw [q4] at p1; exact p1
                | er z ws => rw [q4] at p1; exact p1
                | bad => rw [q4] at p1; exact p1
              refine ⟨rfl, _, F1, a2, g1.sub (fun q z => (s1 q z).elim (fun z => .inr (.inl z)) fun z => .inr (.inr z)), r, ?_⟩
              rw [q1] at p2
              simp only [List.append_nil] at p2
              have sb2 : Sub b2 (Uni Emp (Uni a1 b1)) := s2.trans (Sub.r.trans Sub.r)
              have sa2 : Sub a2 (Uni Emp (Uni a1 b1)) := fun q z => (s1 q z).elim (fun z => .inr (.inl z)) fun z => .inr (.inr z)
              cases q4 : sem [PV.ins wv k vals, w] with
              | bad => rw [q4] at p2; exact p2.elim
              | er z ws => rw [q4] at p2; exact p2.elim
              | ok v' ws =>
                rw [q4] at p2
                cases v' with
                | bl rb =>
                  intro x' H' F' a3 b3 s3 g3 d3 rv rw'
                  have l1 : Dis (Uni a3 b3) b2 := (s3.apart (g1.sub sb2) d2.sym).sym
                  have l2 : Good H' F' b2 := (g1.sub sb2).kept s3 g3 d2.sym
                  have l3 : RE c H' F' ρ2 σ b2 := e2.step (g1.sub sa2) s3 d2.sym
                  have l4 : Stp H1 F1 (Uni Emp (Uni a1 b1)) H' F' (Uni b2 (Uni a3 b3)) := (s3.frame (B := b2)).more (Sub.uni sb2 sa2)
                  have e4 := give_ok (os := [oa, ob]) (vs := [PV.ins wv k vals, w]) (xs := [.ref pa, y]) (ys := []) tm.nms (by simpa using rw') l3 (fun q y z => l1 q (.inr y) z)
                  obtain rfl : x' = V.bl rb := rv
                  refine ⟨rb, rfl, p2 rb H' F' Emp (Uni b3 b2) (l4.drop ?_) ((g3.uni l2).sub ?_) Dis.empl rfl e4⟩
                  · exact fun q y => y.elim False.elim fun z => z.elim (fun z => .inr (.inr z)) .inl
                  · exact fun q y => y.elim False.elim fun z => z.elim (fun z => .inl (.inr z)) .inr
                | _ => exact p2.elim
          | _ => simp only [disp, recv, List.head?_cons, tagOf, Option.bind_none] at p1; exact p1.elim
        · rw [if_neg oth] at p1; exact p1.elim
      | [] => exact p1.elim
      | [_] => exact p1.elim
      | _ :: _ :: _ :: _ => exact p1.elim

def rNeI (X : Cx) (c : RC) (j : Nat) (tg : List Nat) (mt : MT) : R2 := fun x y H Q => rEqI2 X c j tg mt x y H fun v H' => ∃ b, v = .bl b ∧ Q (.bl (!b)) H'
theorem op_neI {W' : WX} (D : Dk X c W' j2) (hj : j + 1 ≤ j2) (N : NesOk X.K c mt) : OpR X (compareOp .NotEq) (rNeI X c j tg mt) := by
  intro pins s σ H x y v u Q I rx ry h
  obtain ⟨pa, k, dx, fs, sem, t, rfl, ha, E, hlk, ty, hn, sp⟩ := h
  obtain ⟨kk, f, fd, ps, hs, hf, F, hr, hb, _⟩ := E.ok
  obtain ⟨hne, hmo⟩ := N k sem hlk
  obtain rfl : v = Value.ref pa := rx
  obtain ⟨mA, J, _⟩ := ins_get I.hok ha
  obtain ⟨od, J, _⟩ := J.look
  obtain ⟨m, hF⟩ := I.fr
  obtain ⟨P, Z, pz, _⟩ := kit_of I ry ty
  show wpAny (model X.prog X.w) X.A (richCompare .NotEq (.ref pa) u) (EP X pins σ Q) X.xe s
  have hu : X.A.units + 1 < cLine := by have := D.hr.un; omega
  refine cmp_neK (tb := t) hu hF I.ok.mod.kin J (Z.ty _ _ I.kIn pz) hn hmo hne hs hf ?_
  have rr : Vals [V.ref pa, y] [Value.ref pa, u] := .cons rfl (.cons ry .nil)
  refine wpAny_mono (run_GA (E := fun _ _ _ => False) (us := [.ref pa, u]) (vs := [V.ref pa, y]) (Q := fun v H' => ∃ b, v = .bl b ∧ ∃ b', v = .bl b' ∧ Q (.bl (!b')) H') F (show X.A.in1.guards = some [] from D.gd) rfl (D.hr.mono (show kk + 1 ≤ j2 by omega)).in1 hb (fun pins' H' s' e s'' _ z => by
      obtain ⟨_, _, _, _, _, _, _, _, _, _, _, _, z⟩ := z
      exact z.elim) I rr sp) (fun r s' z => ?_) fun _ _ z => z
  obtain ⟨v', H', I', rv, b, rfl, b', e, q⟩ := z
  cases e
  cases (show r = Value.bool b from rv)
  exact ⟨b, rfl, .bl (!b), H', I', rfl, q⟩
theorem ne_q {σ : L2.St} {H : Hp} {Q : VK} (D : Ds X c) (A : CTs X.K X.mg c tg) (G : XG X.K) (hE : EqsOk X c j tg mt)
    (q : tTs c W (tNot (tEqI tg mt oa ob)) σ H fun d H1 => Q (.bl d) H1) : tO c W oa σ H fun x H1 => tO c W ob σ H1 fun y H2 => rNeI X c j tg mt x y H2 Q := by
  refine eq_q2 (Q := fun v H1 => ∃ b, v = V.bl b ∧ Q (.bl (!b)) H1) D A G hE ?_
  refine tG.bind (rel := relB) q fun v x ρ1 H1 F1 a b g1 d r e1 p1 => ?_
  cases (show x = v from r)
  exact ⟨v, rfl, p1.now g1 Sub.r rfl e1⟩
/-- x != y, x an instance -/
theorem t_neI (D : Dk X c W j2) (hj : j + 1 ≤ j2) (N : NesOk X.K c mt) (A : CTs X.K X.mg c tg) (G : XG X.K) (hE : EqsOk X c j tg mt) (ha : SO X c W a oa) (hb : SO X c W b ob) : ST X c W (.Compare a [.NotEq] [b] pos) (tNot (tEqI tg mt oa ob)) :=
  PT.weak (pt_cmpR (op_neI D hj N) ha hb (nomark _)) fun σ H Q q => by
    have q' : tTs c W (tNot (tEqI tg mt oa ob)) σ H fun d H1 => (fun v H2 => ∃ k, v = V.bl k ∧ Q k H2) (V.bl d) H1 := q.imp fun d H1 z => ⟨d, rfl, z⟩
    exact ne_q (Q := fun v H2 => ∃ k, v = V.bl k ∧ Q k H2) D.s A G hE q'
theorem e_neI (D : Dk X c W j2) (hj : j + 1 ≤ j2) (N : NesOk X.K c mt) (A : CTs X.K X.mg c tg) (G : XG X.K) (hE : EqsOk X c j tg mt) (ha : SO X c W a oa) (hb : SO X c W b ob) : SE X c W (.Compare a [.NotEq] [b] pos) (eT (tNot (tEqI tg mt oa ob))) :=
  PE.weak (pe_cmpR (op_neI D hj N) ha hb (nomark _)) fun σ H Q q => ne_q D.s A G hE (eT_bl q)
end
end Tr
set_option Elab.async false
set_option linter.all false
set_option maxRecDepth 100000
set_option maxHeartbeats 4000000
/-! Tr.D3: a list or a tuple turned about: x[::-1]. -/
namespace Tr
open PySem PySem.Spec PyProof.Rows L2
def rvA : PV → Option PV
  | .lst _ xs => if fros xs then some (.lst true xs.reverse) else none
  | .tup xs => if fros xs then some (.tup xs.reverse) else none
  | _ => none
section
variable {prog : Program} {w : World} {A : Around} {E : Value → Shared → Prop} {s : Shared}
theorem adjust_back (n : Nat) : Builtin.Slice.sliceAdjust none none (-1) (n : Int) = ((n : Int) - 1, -1) := by
  unfold Builtin.Slice.sliceAdjust
  simp only [show ((-1 : Int) < 0) by decide, if_true]
theorem places_back (n : Nat) : Builtin.Slice.slicePlaces ((n : Int) - 1) (-1) (-1) = n := by
  unfold Builtin.Slice.slicePlaces
  simp only [show ¬ ((-1 : Int) > 0) by decide, if_false]
  split
  · have : ((n : Int) - 1 - -1 - 1) / (- -1) = (n : Int) - 1 := by
      rw [show (- -1 : Int) = 1 by decide, Int.ediv_one]; omega
    rw [this]; omega
  · omega
theorem fm_congr {α β : Type} {f g : α → Option β} : ∀ {l : List α}, (∀ x ∈ l, f x = g x) → l.filterMap f = l.filterMap g
  | [], _ => rfl
  | x :: l, h => by
    rw [List.filterMap_cons, List.filterMap_cons, h x List.mem_cons_self, fm_congr fun y hy => h y (List.mem_cons_of_mem _ hy)]
theorem pick_back (xs : Array Value) : ((List.range xs.size).filterMap fun (k : Nat) => xs[(((xs.size : Nat) : Int) - 1 + (k : Int) * (-1)).toNat]?) = xs.toList.reverse := by
  have e := gP_range xs.toList.reverse
  rw [List.length_reverse, Array.length_toList] at e
  refine Eq.trans ?_ e
  unfold gP
  refine fm_congr fun k hk => ?_
  have hk := List.mem_range.mp hk
  rw [List.getElem?_reverse (by rw [Array.length_toList]; exact hk), Array.length_toList, Array.getElem?_toList]
  congr 1
  omega
theorem sliceApplied_back {sl : Addr} {vl vu vs : Value} {n : Nat} {Q : Int × Int × Nat → Shared → Prop} (hs : s.heap.IsSliceOf sl vl vu vs) (pl : IsPart vl none) (pu : IsPart vu none) (ps : IsPart vs (some (-1)))
    (h : Q ((n : Int) - 1, -1, n) s) : wpAny (model prog w) A (Builtin.Slice.sliceApplied (.ref sl) (pure (n : Int))) Q E s := by
  obtain ⟨os, hos, hcs, hds⟩ := id hs
  unfold Builtin.Slice.sliceApplied Builtin.Slice.sliceFields
  refine wpAny_bind (wpAny_bind (wpAny_field hos hds (x := vl) rfl (wpAny_bind (wpAny_field hos hds (x := vu) rfl (wpAny_bind (wpAny_field hos hds (x := vs) rfl (wpAny_pure ?_)))))))
  refine wpAny_bind (HT.slicePart_ ps ?_)
  show wpAny _ _ (if ((-1 : Int) == 0) = true then _ else _) _ _ s
  rw [if_neg (by decide)]
  refine wpAny_bind (HT.slicePart_ pl (wpAny_bind (HT.slicePart_ pu (wpAny_bind (wpAny_pure ?_)))))
  show wpAny _ _ (match Builtin.Slice.sliceAdjust none none (-1) (n : Int) with | (lo, hi) => pure (lo, (-1 : Int), Builtin.Slice.slicePlaces lo hi (-1))) _ _ s
  rw [adjust_back n]
  show wpAny _ _ (pure ((n : Int) - 1, (-1 : Int), Builtin.Slice.slicePlaces ((n : Int) - 1) (-1) (-1))) _ _ s
  rw [places_back]
  exact wpAny_pure h
theorem getItem_tuple_back {t sl : Addr} {items : Array Value} {vl vu vs : Value} {Q : Value → Shared → Prop} (ht : IsTup s.heap t items) (hs : s.heap.IsSliceOf sl vl vu vs) (pl : IsPart vl none) (pu : IsPart vu none) (ps : IsPart vs (some (-1)))
    (h : Q (.ref s.heap.objs.size) { s with heap := s.heap.push { cls := .type "tuple", data := .seq items.toList.reverse.toArray } })
    (hsz : items.size ≤ sizeLine) : wpAny (model prog w) A (getItem (.ref t) (.ref sl)) Q E s := by
  have htake : sizeOk (.seq items.toList.reverse.toArray) := by
    show items.toList.reverse.toArray.size ≤ sizeLine
    rw [List.size_toArray, List.length_reverse, Array.length_toList]
    omega
  obtain ⟨os, hos, hcs, hds⟩ := id hs
  have hTs : s.TypeIs (.ref sl) "slice" := ⟨os, hos, hcs⟩
  unfold getItem
  try with_reducible refine wpAny_holding ?_
  first | refine wpAny_bind (wpAny_pure ?_) | skip
  refine wpAny_bind (wpAny_sequenceKey ht.typeIs (by decide) ?_)
  refine wpAny_bind (wpAny_callSpecial?_slot (name := Str.ofString "__getitem__") ht.typeIs PyProof.Rows.slot_tuple_getitem
    (wpAny_call_entry PyProof.Rows.slot_tuple_getitem ht.typeIs PyProof.Rows.entry_tuple_getitem ?_ (PyProof.Rows.args_tuple_getitem _ _)))
  show wpAny _ _ (Builtin.Tuple.tupleItemsOf (.ref t) >>= _) _ _ s
  refine wpAny_bind (PyProof.Rows.tupleItemsOf_ ht ?_)
  refine wpAny_bind (wpAny_typeOf hTs ?_)
  rw [if_pos (by decide)]
  refine wpAny_bind (sliceApplied_back hs pl pu ps ?_)
  show wpAny _ _ (if (((items.size : Int) - 1) == 0 && (-1 : Int) == 1 && items.size == items.size) = true then _ else _) _ _ s
  rw [if_neg (by simp), pick_back]
  first
    | exact wpAny_bind (m := Builtin.Tuple.tupleExact _) (wpAny_newObj_type (wpAny_pure ⟨_, rfl, wpAny_pure h⟩) htake)
    | exact wpAny_bind (m := Builtin.Tuple.tupleExact _) (wpAny_newObj_type (wpAny_bind (wpAny_pure (wpAny_pure ⟨_, rfl, wpAny_pure h⟩))) htake)
    | exact wpAny_bind (wpAny_bind (m := Builtin.Tuple.tupleExact _) (wpAny_newObj_type (wpAny_pure (wpAny_pure ⟨_, rfl, wpAny_pure h⟩)) htake))
    | exact wpAny_bind (wpAny_bind (m := Builtin.Tuple.tupleExact _) (wpAny_newObj_type (wpAny_pure ⟨_, rfl, wpAny_pure h⟩) htake))
end
section
variable {X : Cx} {c : RC} {W : WX} {a e : Expr} {oa : Opd} {pos : Pos} {te : TE}
def rRevA (K : PySem.W.Frag) : V → Hp → VK → Prop := fun x H Q => (∃ a xs, x = .ref a ∧ SqL K H a xs ∧ ∀ p, H p = none → Q (.ref p) (upd H p (.lst xs.reverse))) ∨
  ∃ a xs, x = .ref a ∧ SqT K H a xs ∧ ∀ p o, H p = none → TB o → Q (.ref p) (upd H p (.frz o (.tup xs.reverse)))
theorem pe_revA {k : _} {p1 p2 p3 : Pos} (he : PE X e te) : PE X (.Subscript e (.Slice none none (some (.UnaryOp .USub (.Constant (.int 1) k p1) p2)) p3) pos) (fun σ H Q => te σ H fun x H1 => rRevA X.K x H1 Q) := by
  refine ⟨fun pins s σ H Q I h => ?_⟩
  refine Subscript_ (thn (he.run pins s σ H _ I h) fun v s1 ⟨x, H1, I1, r1, q1⟩ => ?_)
  have hst : PO X (some (.UnaryOp .USub (.Constant (.int 1) k p1) p2)) (tPart (tUn (rU fun i => .int (-i)) (tC (.int 1)))) := po_some (pe_un un_neg pe_int)
  have hx : ∃ a, x = .ref a := q1.elim (fun ⟨a, _, e, _⟩ => ⟨a, e⟩) fun ⟨a, _, e, _⟩ => ⟨a, e⟩
  obtain ⟨a, rfl⟩ := hx
  cases r1
  refine wpAny_Slice (thn (po_none.run pins s1 σ H1 (fun o H2 => o = none ∧ H2 = H1) I1 ⟨rfl, rfl⟩) fun vl s2 ⟨l, H2, I2, pl, el, e2⟩ => ?_)
  subst el e2
  refine thn (po_none.run pins s2 σ H2 (fun o H3 => o = none ∧ H3 = H2) I2 ⟨rfl, rfl⟩) fun vu s3 ⟨u, H3, I3, pu, eu, e3⟩ => ?_
  subst eu e3
  refine thn (hst.run pins s3 σ H3 (fun o H4 => o = some (-1) ∧ H4 = H3) I3 ⟨1, rfl, -1, rfl, rfl, rfl⟩) fun vs s4 ⟨o, H4, I4, ps, eo, e4⟩ => ?_
  subst eo e4
  have I5 : L2.Inv X pins σ H4 { s4 with heap := s4.heap.push { cls := .type "slice", data := .fields #[vl, vu, vs] } } := I4.kept (t' := s4.toks) fun b ob q => Heap.get?_push_of_some _ q
  show wpAny (model X.prog X.w) X.A (subscriptTail e (.Slice none none (some (.UnaryOp .USub (.Constant (.int 1) k p1) p2)) p3) (.ref a) (.ref s4.heap.objs.size)) (EP X pins σ Q) X.xe { s4 with heap := s4.heap.push { cls := .type "slice", data := .fields #[vl, vu, vs] } }
  rcases q1 with ⟨b, xs, e1, hx, q⟩ | ⟨b, xs, e1, hx, q⟩
  · cases e1
    obtain ⟨its, r, ht, hz⟩ := I5.list hx
    have hlen := r.length
    refine tail_any (ops := [.ref a, .ref s4.heap.objs.size]) ht.isList.typeIs (PySem.slot_list_getitem.lookup) ?_ (by with_unfolding_all rfl)
    refine wpAny_getItem_list_slice ht.isList (Heap.IsSliceOf.new _ vl vu vs) pl pu ps (by decide) ?_ (by rw [List.size_toArray]; omega)
    rw [PySem.W.krv_pick]
    refine ⟨.ref _, _, I5.laid (t' := s4.toks) (o := .lst xs.reverse) (fun b ob q => Heap.get?_push_of_some _ q) (Nat.le_refl _) ?_, rfl, q _ (I5.hok.fresh (Nat.le_refl _))⟩
    exact ⟨by rw [List.length_reverse]; exact hz, _, 0, r.reverse, Heap.get?_push_size _ rfl⟩
  · cases e1
    obtain ⟨its, r, ht, hz⟩ := I5.tuple hx
    have hlen := r.length
    refine tail_any (ops := [.ref a, .ref s4.heap.objs.size]) ht.typeIs (PyProof.Rows.slot_tuple_getitem.lookup) ?_ (by with_unfolding_all rfl)
    refine getItem_tuple_back ht (Heap.IsSliceOf.new _ vl vu vs) pl pu ps ?_ (by rw [List.size_toArray]; omega)
    refine ⟨.ref _, _, I5.laid (t' := s4.toks) (o := .frz (tupO its.reverse.toArray) (.tup xs.reverse)) (fun b ob q => Heap.get?_push_of_some _ q) (Nat.le_refl _) ?_, rfl, q _ _ (I5.hok.fresh (Nat.le_refl _)) (tB _)⟩
    exact ⟨Heap.get?_push_size _ rfl, by rw [List.length_reverse]; exact hz, _, r.reverse, IsTup.new _ _⟩
theorem k_rvA : K1 c (rRevA c.K) rvA := by
  intro v z x H F Q A g r k q
  cases v <;> first | (cases k; done) | skip
  · obtain ⟨p, vs, e1, q1, l1, rs1⟩ := r.tupB
    subst e1
    simp only [rvA] at k
    split at k
    · rename_i f
      cases k
      exact .inr ⟨p, vs, rfl, q1.sq, fun pp o hp hb => q.tup g (rs1.emp f).rev (by rw [List.length_reverse]; exact l1) hp hb⟩
    · cases k
  · obtain ⟨p, vs, b, rfl, q1, l, _, rs⟩ := r.lstR
    simp only [rvA] at k
    split at k
    · rename_i f
      cases k
      exact .inl ⟨p, vs, rfl, .inl q1, fun pp hp => q.lst g (rs.emp f).rev (by rw [List.length_reverse]; exact l) hp⟩
    · cases k
theorem e_rvA (D : Ds X c) {k0 : _} {p1 p2 p3 : Pos} (ha : SO X c W a oa) : SE X c W (.Subscript a (.Slice none none (some (.UnaryOp .USub (.Constant (.int 1) k0 p1) p2)) p3) pos) (eP1 rvA oa) :=
  PE.weak (pe_revA ha) fun σ H Q q => one_k (r := rRevA X.K) (by rw [D.K]; exact k_rvA) q
end
end Tr
set_option Elab.async false
set_option linter.all false
set_option autoImplicit false
/-! Tr.Ev3: instances and what came with them, run by simp. -/
namespace Tr.Ev
open Tr
open PySem (Str)
variable {ρ ρ' : Env} {e : PExc} {v w u : PV} {vs ws xs ys : List PV} {tb tc : Tb} {k j i m : Nat} {b : Bool}
theorem fldv_ins : fldv tb (.ins b k vs) = (tb.lookup k).bind fun j => vs[j]? := (rfl)
@[simp] theorem fldv_hd {tb : Tb} : fldv ((k, j) :: tb) (.ins b k vs) = vs[j]? := by rw [fldv_ins, List.lookup_cons, show (k == k) = true by simp]; rfl
@[simp] theorem pj_eq {β : Type} {f : PV → Option β} : pj tb f v = (fldv tb v).bind f := (rfl)
@[simp] theorem pjl_eq {β : Type} {f : PV → PV → Option β} : pjl tb f v w = (fldv tb v).bind fun u => f u w := (rfl)
@[simp] theorem pjr_eq {β : Type} {f : PV → PV → Option β} : pjr tb f v w = (fldv tb w).bind fun u => f v u := (rfl)
@[simp] theorem pj2_eq {β : Type} {f : PV → PV → Option β} : pj2 tb tc f v w = (fldv tb v).bind fun u => (fldv tc w).bind fun z => f u z := (rfl)
/-! x.f = e -/
def pfS (i : Nat) (tb : Tb) (v : PV) (ρ : Env) : Option PV → SR
  | some (.ins true k vs) => match (tb.lookup k).bind fun j => putFld j v vs with
    | some ws => .nx (ρ.set i (some (.ins true k ws)))
    | none => .bad
  | _ => .bad
def pfR (i : Nat) (tb : Tb) : Res PV → SR
  | .ok v ρ => pfS i tb v ρ (slot ρ i)
  | .er e ρ => .er e ρ
  | .bad => .bad
@[simp] theorem sPutF_eq {f : EF} : sPutF i tb f ρ = pfR i tb (f ρ) := by
  unfold sPutF pfR
  cases f ρ with
  | ok v ρ1 => rw [sOf_ok]; unfold pfS; rfl
  | er => rfl
  | bad => rfl
@[simp] theorem pfR_ok : pfR i tb (.ok v ρ) = pfS i tb v ρ (slot ρ i) := (rfl)
@[simp] theorem pfS_hd : pfS i ((k, j) :: tb) v ρ (some (.ins true k vs)) = match putFld j v vs with | some ws => .nx (ρ.set i (some (.ins true k ws))) | none => .bad := by
  show (match ((k, j) :: tb).lookup k |>.bind fun j => putFld j v vs with | some ws => SR.nx (ρ.set i (some (.ins true k ws))) | none => SR.bad) = _
  rw [List.lookup_cons, show (k == k) = true by simp]; rfl
@[simp] theorem putFld_0n : putFld 0 v [] = some [v] := (rfl)
@[simp] theorem putFld_0 : putFld 0 v (w :: vs) = some (v :: vs) := (rfl)
@[simp] theorem putFld_1n : putFld 1 v [w] = some [w, v] := (rfl)
@[simp] theorem putFld_1 : putFld 1 v (w :: u :: vs) = some (w :: v :: vs) := (rfl)
/-! C(..), o.m(..) -/
def mkR1 (k : Nat) (sem : FF) (os : List Opd) (ds : List PV) : Res (List (Option PV)) → Res PV
  | .ok ts ρ => match takeAll os ts ρ with
    | none => .bad
    | some (vs, ρ2) => made (sem (.ins true k [] :: (vs ++ ds))) .ok fun ws => giveAll os vs ws ρ2
  | .er e ρ => .er e ρ
  | .bad => .bad
@[simp] theorem eMake_eq {sem : FF} {os : List Opd} {ds : List PV} : eMake k sem os ds ρ = mkR1 k sem os ds (goAll os ρ) := by
  unfold eMake mkR1; cases goAll os ρ <;> rfl
@[simp] theorem mkR1_ok {sem : FF} {os : List Opd} {ds : List PV} {ts : List (Option PV)} : mkR1 k sem os ds (.ok ts ρ) = match takeAll os ts ρ with
    | none => .bad
    | some (vs, ρ2) => made (sem (.ins true k [] :: (vs ++ ds))) .ok fun ws => giveAll os vs ws ρ2 := (rfl)
@[simp] theorem made_ok {α : Type} {f : PV → Env → Res α} {g : List PV → Env} : made (.ok .non (v :: ws)) f g = f v (g ws) := (rfl)
@[simp] theorem made_er {α : Type} {f : PV → Env → Res α} {g : List PV → Env} : made (.er e (v :: ws)) f g = .er e (g ws) := (rfl)
@[simp] theorem recv_hd {sem : FF} {mt : MT} : recv ((k, sem) :: mt) (some (.ins b k vs)) = some sem := by
  show List.lookup k ((k, sem) :: mt) = _
  rw [List.lookup_cons, show (k == k) = true by simp]
def meT (o : Opd) (os : List Opd) (ds : List PV) (sem : FF) (t : Option PV) : Res (List (Option PV)) → Res PV
  | .ok ts ρ => match takeAll (o :: os) (t :: ts) ρ with
    | none => .bad
    | some (vs, ρ3) => back (sem (vs ++ ds)) .ok fun ws => giveAll (o :: os) vs ws ρ3
  | .er e ρ => .er e ρ
  | .bad => .bad
def meR (o : Opd) (os : List Opd) (ds : List PV) (t : Option PV) (ρ : Env) : Option FF → Res PV
  | none => .bad
  | some sem => meT o os ds sem t (goAll os ρ)
def me1 (mt : MT) (o : Opd) (os : List Opd) (ds : List PV) : Res (Option PV) → Res PV
  | .ok t ρ => meR o os ds t ρ (recv mt (o.get t ρ))
  | _ => .bad
@[simp] theorem eMeth_eq {mt : MT} {o : Opd} {os : List Opd} {ds : List PV} : eMeth mt o os ds ρ = me1 mt o os ds (o.go ρ) := by
  unfold eMeth me1
  cases o.go ρ with
  | ok t ρ1 =>
    rw [Res.bindB_ok]
    show _ = meR o os ds t ρ1 (recv mt (o.get t ρ1))
    cases recv mt (o.get t ρ1) with
    | none => rfl
    | some sem =>
      show (goAll os ρ1).bind _ = meT o os ds sem t (goAll os ρ1)
      cases goAll os ρ1 <;> rfl
  | er => rfl
  | bad => rfl
@[simp] theorem me1_ok {mt : MT} {o : Opd} {os : List Opd} {ds : List PV} {t : Option PV} : me1 mt o os ds (.ok t ρ) = meR o os ds t ρ (recv mt (o.get t ρ)) := (rfl)
@[simp] theorem meR_some {o : Opd} {os : List Opd} {ds : List PV} {sem : FF} {t : Option PV} : meR o os ds t ρ (some sem) = meT o os ds sem t (goAll os ρ) := (rfl)
@[simp] theorem meT_ok {o : Opd} {os : List Opd} {ds : List PV} {sem : FF} {t : Option PV} {ts : List (Option PV)} : meT o os ds sem t (.ok ts ρ) = match takeAll (o :: os) (t :: ts) ρ with
    | none => .bad
    | some (vs, ρ3) => back (sem (vs ++ ds)) .ok fun ws => giveAll (o :: os) vs ws ρ3 := (rfl)
/-! own operators -/
@[simp] theorem dispX_hd {sem : FF} {mt : MT} {as : List PV} : dispX ((k, sem) :: mt) (.ins b k vs :: as) = sem (.ins b k vs :: as) := by
  unfold dispX
  rw [List.head?_cons, recv_hd]
theorem disp_hd {sem : FF} {mt : MT} {as : List PV} (h : sem (.ins b k vs :: as) = .ok v ws) : disp ((k, sem) :: mt) (.ins b k vs :: as) = .ok v ws := by
  unfold disp
  rw [List.head?_cons, recv_hd]
  simp only [h]
theorem lenI_ok {mt : MT} {as : List PV} {n : Int} (h : dispX mt as = .ok (.int n) ws) (h0 : 0 ≤ n) (h1 : n < 4611686018427387904) : lenI mt as = .ok (.int n) ws := by
  unfold lenI
  simp only [h]
  rw [if_pos (by simp [h0, h1])]
theorem noEr_ok {sem : FF} {as : List PV} (h : sem as = .ok v ws) : noEr sem as = .ok v ws := by unfold noEr; simp only [h]
theorem permF_ok {p q : List Nat} {sem : FF} {as : List PV} (h : sem (gP p as) = .ok v ws) : permF p q sem as = .ok v (gP q ws) := by unfold permF; simp only [h]
def te2 (tg : List Nat) (mt : MT) (a b : Opd) (ρ2 : Env) : List PV → Res Bool
  | [v, w] => if othOk tg w = true then (match disp mt [v, w] with
    | .ok (.bl r) ws => .ok r (giveAll [a, b] [v, w] ws ρ2)
    | _ => .bad) else .bad
  | _ => .bad
def te1 (tg : List Nat) (mt : MT) (a b : Opd) : Res (List (Option PV)) → Res Bool
  | .ok ts ρ => match takeAll [a, b] ts ρ with
    | some (vs, ρ2) => te2 tg mt a b ρ2 vs
    | none => .bad
  | .er e ρ => .er e ρ
  | .bad => .bad
@[simp] theorem tEqI_eq {tg : List Nat} {mt : MT} {a b : Opd} : tEqI tg mt a b ρ = te1 tg mt a b (goAll [a, b] ρ) := by
  unfold tEqI te1
  cases goAll [a, b] ρ with
  | ok ts ρ1 =>
    rw [Res.bind_ok]
    show _ = (match takeAll [a, b] ts ρ1 with | some (vs, ρ2) => te2 tg mt a b ρ2 vs | none => .bad)
    cases h : takeAll [a, b] ts ρ1 with
    | none => rfl
    | some z =>
      obtain ⟨vs, ρ2⟩ := z
      match vs with
      | [] => rfl
      | [_] => rfl
      | [_, _] => rfl
      | _ :: _ :: _ :: _ => rfl
  | er => rfl
  | bad => rfl
@[simp] theorem te1_ok {tg : List Nat} {mt : MT} {a b : Opd} {ts : List (Option PV)} : te1 tg mt a b (.ok ts ρ) = match takeAll [a, b] ts ρ with
    | some (vs, ρ2) => te2 tg mt a b ρ2 vs
    | none => .bad := (rfl)
theorem te2_ok {tg : List Nat} {mt : MT} {a b : Opd} {r : Bool} (h : othOk tg w = true) (h2 : disp mt [v, w] = .ok (.bl r) ws) : te2 tg mt a b ρ [v, w] = .ok r (giveAll [a, b] [v, w] ws ρ) := by
  unfold te2
  simp only [h2]
  rw [if_pos h]
@[simp] theorem isaK_ins {tg ks : List Nat} : isaK tg ks (.ins b k vs) = if tg.contains k then some (ks.contains k) else none := (rfl)
@[simp] theorem isaK_lst {tg ks : List Nat} : isaK tg ks (.lst b xs) = some false := (rfl)
@[simp] theorem isaK_tup {tg ks : List Nat} : isaK tg ks (.tup xs) = some false := (rfl)
@[simp] theorem isaK_str {tg ks : List Nat} {x : Str} : isaK tg ks (.str x) = some false := (rfl)
@[simp] theorem oth_lst {tg : List Nat} : othOk tg (.lst b xs) = true := (rfl)
@[simp] theorem oth_tup {tg : List Nat} : othOk tg (.tup xs) = true := (rfl)
@[simp] theorem oth_ins {tg : List Nat} : othOk tg (.ins b k vs) = tg.contains k := (rfl)
@[simp] theorem isA2_eq {T U : Ty} : isA2 T U v = (isA T v).bind fun a => (isA U v).bind fun b => some (a || b) := (rfl)
@[simp] theorem iZip_eq {a b : Opd} : iZip a b ρ = o2 a b zipP (a.go ρ) := op2_eq
theorem zipP_tt (h1 : fros xs = true) (h2 : fros ys = true) : zipP (.tup xs) (.tup ys) = some (List.zipWith (fun x y => .tup [x, y]) xs ys) := by
  show (if (fro (.tup xs) && fro (.tup ys)) = true then some (List.zipWith (fun x y => PV.tup [x, y]) xs ys) else none) = _
  rw [fro_tup, fro_tup, h1, h2]
  rfl
def gdR (a b : Opd) (f : PV → PV → Option PV) (t : Option PV) (ρ : Env) : Option PV → Res PV
  | some (.tup _) => o2b a b f t (b.go ρ)
  | _ => .bad
def ixR (a b : Opd) : Res (Option PV) → Res PV
  | .ok t ρ => gdR a b bIdx t ρ (a.get t ρ)
  | .er e ρ => .er e ρ
  | .bad => .bad
@[simp] theorem eIdx_eq {a b : Opd} : eIdx a b ρ = ixR a b (a.go ρ) := by
  unfold eIdx op2g ixR
  cases a.go ρ with
  | ok t ρ1 =>
    rw [Res.bind_ok]
    show _ = gdR a b bIdx t ρ1 (a.get t ρ1)
    cases h : a.get t ρ1 with
    | none => rfl
    | some v =>
      cases v <;> first | rfl | skip
      unfold gdR o2b
      simp only [Option.any_some, isTup, if_true]
      cases b.go ρ1 <;> rfl
  | er => rfl
  | bad => rfl
@[simp] theorem ixR_ok {a b : Opd} {t : Option PV} : ixR a b (.ok t ρ) = gdR a b bIdx t ρ (a.get t ρ) := (rfl)
@[simp] theorem gdR_tup {a b : Opd} {f : PV → PV → Option PV} {t : Option PV} : gdR a b f t ρ (some (.tup xs)) = o2b a b f t (b.go ρ) := (rfl)
@[simp] theorem frz_ins : frz (.ins b k vs) = .ins false k (frzs vs) := by rw [frz]
@[simp] theorem fro_it : fro (.ins true k vs) = false := by rw [fro]; rfl
@[simp] theorem fro_if : fro (.ins false k vs) = fros vs := by rw [fro]; rfl
end Tr.Ev
set_option Elab.async false
set_option linter.all false
/-! Tr.D4: two own classes told apart, for a row's head. -/
namespace Tr
open PySem
theorem kit_sub {K : PySem.W.Frag} {C D : Addr} (ne : (Value.ref D == Value.ref C) = false) (c : PySem.W.isClsIn K C = true) (ty : PySem.W.typeIn K (.ref C) = some (.type "type")) (s : PySem.W.subIn K (.ref D) (.ref C) = some false) : PySem.W.kitOne K (.ref D) (.ref C) = some false := by
  unfold PySem.W.kitOne PySem.W.kitCls
  rw [ne]
  unfold PySem.W.isClsIn at c
  simp [c, ty, s]
end Tr
set_option Elab.async false
set_option linter.all false
set_option maxRecDepth 100000
namespace Law
open PySem Tr
def b_are_distinct : SF := (sRet (eT (tPV2 cEq (.ev (eP1 fLenSetS (.nm 0))) (.ev (eP1 fLen (.nm 0))))))
def f_are_distinct : FF := mk [true] 1 b_are_distinct
def b_is_name : SF := (sSeq (sIf (tOr (tNot (tE (eT (tPV (isA .str) (.nm 0))))) (tOr (tNot (tCh cLe cLe (.ev (eC (.int 1))) (.ev (eP1 fLen (.nm 0))) (.ev (eC (.int 8))))) (tPV2 cEq (.nm 0) (.ev (eC (.str "key")))))) (sRet (eC (.bl false))) sNx)
    (sRet (eP1 fAll (.ev (eComp [1] (iS (eNm 0)) (bN 1) tYes (eT (tPV2 cIn (.nm 1) (.ev (eC (.str "abcdefghijklmnopqrstuvwxyz"))))))))))
def f_is_name : FF := mk [true] 2 b_is_name
def b_is_item : SF := (sRet (eOr (tE (eCall f_is_name [(.nm 0)] [])) (eAnd (tE (eT (tPV (isA .str) (.nm 0)))) (eT (tPV2 cEq (.nm 0) (.ev (eC (.str "key"))))))))
def f_is_item : FF := mk [true] 1 b_is_item
def b_is_whole : SF := (sRet (eAnd (tE (eT (tPV (isA .int) (.nm 0)))) (eT (tNot (tE (eT (tPV (isA .bool) (.nm 0))))))))
def f_is_whole : FF := mk [true] 1 b_is_whole
def b_is_grain : SF := (sRet (eAnd (tE (eCall f_is_whole [(.nm 0)] [])) (eT (tCh cLe cLe (.ev (eC (.int 1))) (.nm 0) (.ev (eC (.int 1000000000)))))))
def f_is_grain : FF := mk [true] 1 b_is_grain
def b_is_show : SF := (sSeq (sIf (tOr (tNot (tE (eT (tPV (isA .tuple) (.nm 0))))) (tOr (tPV2 cNe (.ev (eP1 fLen (.nm 0))) (.ev (eC (.int 2)))) (tOr (tNot (tE (eCall f_is_item [(.ev (eP2 ix (.nm 0) (.ev (eC (.int 0)))))] []))) (tNot (tE (eCall f_is_grain [(.ev (eP2 ix (.nm 0) (.ev (eC (.int 1)))))] [])))))) (sRet (eC (.bl false))) sNx)
    (sRet (eOr (tE (eT (tPV2 cNe (.ev (eP2 ix (.nm 0) (.ev (eC (.int 0))))) (.ev (eC (.str "key")))))) (eT (tPV2 cEq (.ev (eP2 ix (.nm 0) (.ev (eC (.int 1))))) (.ev (eC (.int 1))))))))
def f_is_show : FF := mk [true] 1 b_is_show
def b_are_shown : SF := (sSeq (sIf (tOr (tNot (tE (eT (tPV (isA .tuple) (.nm 0))))) (tOr (tNot (tCh cLe cLe (.ev (eC (.int 1))) (.ev (eP1 fLen (.nm 0))) (.ev (eC (.int 7))))) (tNot (tE (eP1 fAll (.ev (eCompN [1] 0 (bN 1) tYes (eCall f_is_show [(.nm 1)] [])))))))) (sRet (eC (.bl false))) sNx)
    (sRet (eCall f_are_distinct [(.ev (eP1 fTuple (.ev (eCompN [2, 3] 0 (bT [(bN 2), (bN 3)]) tYes (eNm 2)))))] [])))
def f_are_shown : FF := mk [true] 4 b_are_shown
def b_is_number : SF := (sRet (eAnd (tE (eCall f_is_whole [(.nm 0)] [])) (eT (tCh cLe cLt (.ev (eC (.int 0))) (.nm 0) (.ev (eC (.int 1000000000000000000000000000000)))))))
def f_is_number : FF := mk [true] 1 b_is_number
def b_is_cell : SF := (sRet (eOr (tE (eT (tPV cIsN (.nm 0)))) (eCall f_is_number [(.nm 0)] [])))
def f_is_cell : FF := mk [true] 1 b_is_cell
def b_is_test : SF := (sSeq (sIf (tOr (tNot (tE (eT (tPV (isA .tuple) (.nm 0))))) (tOr (tPV2 cLt (.ev (eP1 fLen (.nm 0))) (.ev (eC (.int 2)))) (tOr (tNot (tE (eT (tPV (isA .str) (.ev (eP2 ix (.nm 0) (.ev (eC (.int 0))))))))) (tNot (tE (eCall f_is_name [(.ev (eP2 ix (.nm 0) (.ev (eC (.int 1)))))] [])))))) (sRet (eC (.bl false))) sNx)
    (sSeq (sIf (tPV2 cEq (.ev (eP2 ix (.nm 0) (.ev (eC (.int 0))))) (.ev (eC (.str "filled")))) (sRet (eT (tPV2 cEq (.ev (eP1 fLen (.nm 0))) (.ev (eC (.int 2)))))) sNx)
    (sSeq (sIf (tPV2 cNe (.ev (eP1 fLen (.nm 0))) (.ev (eC (.int 3)))) (sRet (eC (.bl false))) sNx)
    (sRet (eIf (tPV2 cEq (.ev (eP2 ix (.nm 0) (.ev (eC (.int 0))))) (.ev (eC (.str "is")))) (eCall f_is_cell [(.ev (eP2 ix (.nm 0) (.ev (eC (.int 2)))))] []) (eAnd (tE (eT (tPV2 cIn (.ev (eP2 ix (.nm 0) (.ev (eC (.int 0))))) (.ev (eTup (aCons (eC (.str "below")) (aCons (eC (.str "from")) aNil))))))) (eCall f_is_number [(.ev (eP2 ix (.nm 0) (.ev (eC (.int 2)))))] [])))))))
def f_is_test : FF := mk [true] 1 b_is_test
def b_are_tests : SF := (sRet (eAnd (tE (eT (tPV (isA .tuple) (.nm 0)))) (eP1 fAll (.ev (eCompN [1] 0 (bN 1) tYes (eCall f_is_test [(.nm 1)] []))))))
def f_are_tests : FF := mk [true] 2 b_are_tests
def b_Sending___init__ : SF := (sSeq (sIf (tNot (tE (eCall f_are_shown [(.nm 1)] []))) (sRaise 2 (aCons (eC (.str "shown")) aNil)) sNx)
    (sSeq (sIf (tNot (tE (eCall f_are_tests [(.nm 2)] []))) (sRaise 2 (aCons (eC (.str "tests")) aNil)) sNx)
    (sSeq (sIf (tNot (tE (eT (tPV (isA .bool) (.nm 3))))) (sRaise 2 (aCons (eC (.str "once")) aNil)) sNx)
    (sSeq (sPutF 0 [(8, 0)] (eNm 1))
    (sSeq (sPutF 0 [(8, 1)] (eNm 2))
    (sPutF 0 [(8, 2)] (eNm 3)))))))
def f_Sending___init__ : FF := mk [true, true, true, true] 4 b_Sending___init__
def b_Sending_names : SF := (sRet (eP1 fTuple (.ev (eComp [1, 2] (iE (eP1 (pj [(8, 0)] onlyFro) (.nm 0))) (bT [(bN 1), (bN 2)]) tYes (eNm 1)))))
def f_Sending_names : FF := mk [true] 3 b_Sending_names
def b_Sheet_names : SF := (sRet (eP1 (pj [(9, 0)] onlyFro) (.nm 0)))
def f_Sheet_names : FF := mk [true] 1 b_Sheet_names
def b__law_well : SF := (sSeq (sSet 2 (eIf (tPV2 cLt (.nm 1) (.ev (eP1 fLen (.nm 0)))) (eP2 ix (.nm 0) (.nm 1)) (eP2 bSub (.ev (eC (.int 0))) (.nm 1))))
    (sSeq (sSet 3 (eP2 fMax2 (.ev (eC (.int 0))) (.ev (eP2 bSub (.ev (eP1 fAbs (.nm 2))) (.ev (eP2 bPow (.ev (eC (.int 10))) (.ev (eC (.int 18)))))))))
    (sRet (eLst (aCons (eNm 3) (aCons (eP2 bAdd (.ev (eP2 bAdd (.ev (eP2 bMul (.ev (eP2 bMod (.ev (eP1 fAbs (.nm 2))) (.ev (eP2 bPow (.ev (eC (.int 10))) (.ev (eC (.int 18))))))) (.ev (eC (.int 2))))) (.ev (eP1 fInt (.ev (eT (tPV2 cLt (.nm 2) (.ev (eC (.int 0)))))))))) (.ev (eP2 bMul (.ev (eC (.int 97))) (.nm 1)))) (aCons (eC (.int 1)) aNil)))))))
def f__law_well : FF := mk [true, true] 4 b__law_well
def b__law_same (rec : FF) : SF := (sSeq (sIf (tOr (tPV cIsN (.nm 1)) (tPV cIsN (.nm 0))) (sRet (eAnd (tE (eT (tPV cIsN (.nm 1)))) (eT (tPV cIsN (.nm 0))))) sNx)
    (sSeq (sIf (tOr (tE (eT (tPV (isA .bool) (.nm 1)))) (tE (eT (tPV (isA .bool) (.nm 0))))) (sRet (eAnd (tE (eT (tPV (isA .bool) (.nm 1)))) (eAnd (tE (eT (tPV (isA .bool) (.nm 0)))) (eT (tPV2 cEq (.nm 1) (.nm 0)))))) sNx)
    (sSeq (sIf (tE (eT (tPV (isA .int) (.nm 1)))) (sRet (eAnd (tE (eT (tPV (isA .int) (.nm 0)))) (eT (tPV2 cEq (.nm 1) (.nm 0))))) sNx)
    (sSeq (sIf (tE (eT (tPV (isA .str) (.nm 1)))) (sRet (eAnd (tE (eT (tPV (isA .str) (.nm 0)))) (eT (tPV2 cEq (.nm 1) (.nm 0))))) sNx)
    (sSeq (sIf (tOr (tNot (tE (eT (tPV (isA2 .list .tuple) (.nm 0))))) (tPV2 cNe (.ev (eT (tPV (isA .list) (.nm 1)))) (.ev (eT (tPV (isA .list) (.nm 0)))))) (sRet (eC (.bl false))) sNx)
    (sSeq (sIf (tPV2 cNe (.ev (eP1 fLen (.nm 1))) (.ev (eP1 fLen (.nm 0)))) (sRet (eC (.bl false))) sNx)
    (sRet (eT (tPV2 cEq (.ev (eComp [2] (iRange1 (eP1 fLen (.nm 1))) (bN 2) (tNot (tE (eCall rec [(.ev (eP2 ix (.nm 0) (.nm 2))), (.ev (eP2 ix (.nm 1) (.nm 2)))] []))) (eNm 2))) (.ev (eLst aNil)))))))))))
def f__law_same : Nat → FF
  | 0 => fun _ => .bad
  | n + 1 => mk [true, true] 3 (b__law_same (f__law_same n))
def b__law_draw : SF := (sSeq (sIf (tPV2 cGt (.ev (eP2 ix (.nm 0) (.ev (eC (.int 0))))) (.ev (eC (.int 0)))) (sSeq (sSet 2 (eP2 bMod (.ev (eP1 fInt (.ev (eP2 ix (.nm 0) (.ev (eC (.int 0))))))) (.nm 1)))
    (sSeq (sPutL 0 (eC (.int 0)) (eP2 bDiv (.ev (eP2 ix (.nm 0) (.ev (eC (.int 0))))) (.nm 1)))
    (sRet (eMv 2)))) sNx)
    (sSeq (sPutL 0 (eC (.int 2)) (eP2 bAdd (.ev (eP2 ix (.nm 0) (.ev (eC (.int 2))))) (.ev (eC (.int 1)))))
    (sSeq (sSet 3 (eP2 bMod (.ev (eP2 bPow (.ev (eP1 fInt (.ev (eP2 bAdd (.ev (eP2 ix (.nm 0) (.ev (eC (.int 1))))) (.ev (eP2 bMul (.ev (eC (.int 40503))) (.ev (eP2 ix (.nm 0) (.ev (eC (.int 2))))))))))) (.ev (eC (.int 3))))) (.ev (eC (.int 170141183460469231731687303715884105727)))))
    (sSeq (sSet 3 (eP2 bMod (.ev (eP2 bPow (.ev (eP1 fInt (.ev (eP2 bAdd (.nm 3) (.ev (eP2 bMul (.ev (eC (.int 7))) (.ev (eP2 ix (.nm 0) (.ev (eC (.int 2))))))))))) (.ev (eC (.int 2))))) (.ev (eC (.int 618970019642690137449562111)))))
    (sRet (eP2 bMod (.ev (eP2 bDiv (.nm 3) (.ev (eC (.int 1024))))) (.nm 1)))))))
def f__law_draw : FF := mk [true, true] 4 b__law_draw
def b__law_names : SF := (sSeq (sSetT (bT [(bN 2), (bN 3)]) (eTup (aCons (eC (.str "abcdefghijklmnopqrstuvwxyz")) (aCons (eLst aNil) aNil))))
    (sSeq (sPar2 4 5 (aCons (eCall f__law_draw [(.nm 0), (.ev (eC (.int 3)))] []) (aCons (eP2 bAdd (.ev (eC (.int 1))) (.ev (eCall f__law_draw [(.nm 0), (.ev (eC (.int 8)))] []))) aNil)))
    (sSeq (sSet 6 (eComp [9] (iRange1 (eC (.int 8))) (bN 9) tYes (eP2 ix (.nm 2) (.ev (eCall f__law_draw [(.nm 0), (.ev (eC (.int 26)))] [])))))
    (sSeq (sPar2 7 8 (aCons (eCall f__law_draw [(.nm 0), (.nm 5)] []) (aCons (eCall f__law_draw [(.nm 0), (.ev (eC (.int 26)))] []) aNil)))
    (sSeq (sFor (iRange1 (eNm 1)) (bN 9) (sSeq (sSet 10 (eP2 bAdd (.ev (eSl (.nm 6) none (some (eNm 7)))) (.ev (eLst (aCons (eP2 ix (.nm 2) (.ev (eP2 bMod (.ev (eP1 fInt (.ev (eP2 bAdd (.nm 8) (.nm 9))))) (.ev (eC (.int 26)))))) aNil)))))
    (sSeq (sSet 10 (eP2 bAdd (.nm 10) (.ev (eSl (.nm 6) (some (eP2 bAdd (.nm 7) (.ev (eC (.int 1))))) (some (eNm 5))))))
    (sSeq (sIf (tPV2 cEq (.nm 4) (.ev (eC (.int 1)))) (sSet 10 (eSl (.nm 6) none (some (eP2 bAdd (.ev (eC (.int 1))) (.ev (eP2 bMod (.ev (eP1 fInt (.ev (eP2 bAdd (.nm 7) (.nm 9))))) (.ev (eC (.int 8))))))))) sNx)
    (sSeq (sIf (tPV2 cEq (.nm 4) (.ev (eC (.int 2)))) (sSeq (sSet 11 (eP2 bAdd (.ev (eC (.int 1))) (.ev (eCall f__law_draw [(.nm 0), (.ev (eC (.int 8)))] []))))
    (sSet 10 (eComp [13] (iRange1 (eNm 11)) (bN 13) tYes (eP2 ix (.nm 2) (.ev (eCall f__law_draw [(.nm 0), (.ev (eC (.int 26)))] [])))))) sNx)
    (sSeq (sSet 12 (eP2 bAdd (.ev (eLst (aCons (eP1 (fJoin (.str "")) (.nm 10)) aNil))) (.ev (eComp [14] (iS (eC (.str "qrstuvwxyz"))) (bN 14) tYes (eP2 bMul (.nm 14) (.ev (eC (.int 8))))))))
    (sSeq (sSet 12 (eCompN [15] 12 (bN 15) (tAnd (tPV2 cNe (.nm 15) (.ev (eC (.str "key")))) (tPV2 cNi (.nm 15) (.nm 3))) (eNm 15)))
    (sApp 3 (eP2 ix (.nm 12) (.ev (eC (.int 0))))))))))))
    (sRet (eP1 fTuple (.nm 3))))))))
def f__law_names : FF := mk [true, true] 16 b__law_names
def b__law_number : SF := (sSeq (sPar2 1 2 (aCons (eCall f__law_draw [(.nm 0), (.ev (eC (.int 6)))] []) (aCons (eCall f__law_draw [(.nm 0), (.ev (eC (.int 40)))] []) aNil)))
    (sSeq (sIf (tPV2 cLt (.nm 1) (.ev (eC (.int 3)))) (sRet (eMv 2)) sNx)
    (sSeq (sIf (tPV2 cEq (.nm 1) (.ev (eC (.int 3)))) (sRet (eP2 bSub (.ev (eP2 bSub (.ev (eP2 bPow (.ev (eC (.int 10))) (.ev (eC (.int 30))))) (.ev (eC (.int 1))))) (.nm 2))) sNx)
    (sSeq (sIf (tPV2 cEq (.nm 1) (.ev (eC (.int 4)))) (sRet (eCall f__law_draw [(.nm 0), (.ev (eP2 bPow (.ev (eC (.int 10))) (.ev (eC (.int 30)))))] [])) sNx)
    (sRet (eP2 bAdd (.ev (eP1 fIntS (.ev (eP2 bAdd (.ev (eC (.str "1"))) (.ev (eP2 bMul (.ev (eC (.str "0"))) (.ev (eCall f__law_draw [(.nm 0), (.ev (eC (.int 30)))] [])))))))) (.nm 2)))))))
def f__law_number : FF := mk [true] 3 b__law_number
def b__law_pool : SF := (sSeq (sSet 1 (eLst aNil))
    (sSeq (sFor (iRange1 (eC (.int 3))) (bN 2) (sSeq (sSet 3 (eCall f__law_number [(.nm 0)] []))
    (sSet 1 (eP2 bAdd (.nm 1) (.ev (eLst (aCons (eP2 fMax2 (.ev (eC (.int 0))) (.ev (eP2 bSub (.nm 3) (.ev (eC (.int 1)))))) (aCons (eNm 3) (aCons (eP2 fMin2 (.ev (eP2 bSub (.ev (eP2 bPow (.ev (eC (.int 10))) (.ev (eC (.int 30))))) (.ev (eC (.int 1))))) (.ev (eP2 bAdd (.nm 3) (.ev (eC (.int 1)))))) aNil)))))))))
    (sRet (eMv 1))))
def f__law_pool : FF := mk [true] 4 b__law_pool
def b__law_tests : SF := (sSeq (sSet 3 (eLst aNil))
    (sSeq (sFor (iRange1 (eP2 ix (.ev (eLst (aCons (eC (.int 0)) (aCons (eC (.int 1)) (aCons (eC (.int 1)) (aCons (eC (.int 2)) (aCons (eCall f__law_draw [(.nm 0), (.ev (eC (.int 9)))] []) aNil))))))) (.ev (eCall f__law_draw [(.nm 0), (.ev (eC (.int 5)))] [])))) (bN 4) (sSeq (sSetT (bT [(bN 5), (bN 6)]) (eTup (aCons (eP2 ix (.nm 1) (.ev (eCall f__law_draw [(.nm 0), (.ev (eP1 fLen (.nm 1)))] []))) (aCons (eP2 ix (.nm 2) (.ev (eCall f__law_draw [(.nm 0), (.ev (eP1 fLen (.nm 2)))] []))) aNil))))
    (sSeq (sSet 7 (eLst (aCons (eTup (aCons (eC (.str "is")) (aCons (eNm 5) (aCons (eNm 6) aNil)))) (aCons (eTup (aCons (eC (.str "below")) (aCons (eNm 5) (aCons (eNm 6) aNil)))) (aCons (eTup (aCons (eC (.str "from")) (aCons (eNm 5) (aCons (eNm 6) aNil)))) aNil)))))
    (sSeq (sSet 7 (eP2 bAdd (.nm 7) (.ev (eLst (aCons (eTup (aCons (eC (.str "filled")) (aCons (eNm 5) aNil))) (aCons (eTup (aCons (eC (.str "is")) (aCons (eNm 5) (aCons (eC .non) aNil)))) (aCons (eTup (aCons (eC (.str "from")) (aCons (eNm 5) (aCons (eC (.int 0)) aNil)))) aNil)))))))
    (sIf (tPV2 cLt (.ev (eP1 fLen (.ev (eCompN [8] 3 (bN 8) (tPV2 cEq (.ev (eP2 ix (.nm 8) (.ev (eC (.int 1))))) (.nm 5)) (eNm 8))))) (.ev (eC (.int 4)))) (sApp 3 (eP2 ix (.nm 7) (.ev (eCall f__law_draw [(.nm 0), (.ev (eC (.int 6)))] [])))) sNx)))))
    (sRet (eP1 fTuple (.nm 3)))))
def f__law_tests : FF := mk [true, true, true] 9 b__law_tests
def b__law_shown : SF := (sSeq (sPar2 2 3 (aCons (eP2 bAdd (.ev (eP1 fList (.nm 1))) (.ev (eLst (aCons (eC (.str "key")) aNil)))) (aCons (eLst aNil) aNil)))
    (sSeq (sFor (iRange1 (eP2 bAdd (.ev (eC (.int 1))) (.ev (eCall f__law_draw [(.nm 0), (.ev (eP2 bAdd (.ev (eP1 fLen (.nm 1))) (.ev (eC (.int 1)))))] [])))) (bN 4) (sSeq (sSet 5 (eP2 ix (.nm 2) (.ev (eCall f__law_draw [(.nm 0), (.ev (eP1 fLen (.nm 2)))] []))))
    (sSeq (sSet 2 (eCompN [7] 2 (bN 7) (tPV2 cNe (.nm 7) (.nm 5)) (eNm 7)))
    (sSeq (sSet 6 (eP2 ix (.ev (eLst (aCons (eC (.int 1)) (aCons (eC (.int 1)) (aCons (eC (.int 2)) (aCons (eC (.int 10)) (aCons (eP2 bPow (.ev (eC (.int 10))) (.ev (eC (.int 9)))) (aCons (eP2 bAdd (.ev (eC (.int 1))) (.ev (eCall f__law_draw [(.nm 0), (.ev (eP2 bPow (.ev (eC (.int 10))) (.ev (eC (.int 9)))))] []))) aNil)))))))) (.ev (eCall f__law_draw [(.nm 0), (.ev (eC (.int 6)))] []))))
    (sApp 3 (eTup (aCons (eNm 5) (aCons (eIf (tPV2 cEq (.nm 5) (.ev (eC (.str "key")))) (eC (.int 1)) (eNm 6)) aNil))))))))
    (sRet (eP1 fTuple (.nm 3)))))
def f__law_shown : FF := mk [true, true] 8 b__law_shown
def b__law_wrong_shown : SF := (sSeq (sPar2 2 3 (aCons (eCall f__law_draw [(.nm 0), (.ev (eP1 fLen (.nm 1)))] []) (aCons (eCall f__law_draw [(.nm 0), (.ev (eC (.int 16)))] []) aNil)))
    (sSeq (sSetT (bT [(bN 4), (bN 5)]) (eP2 ix (.nm 1) (.nm 2)))
    (sSeq (sSet 6 (eP2 ix (.ev (eFrz (eLst (aCons (eC .non) (aCons (eC (.bl true)) (aCons (eC (.int 0)) (aCons (eP1 uNeg (.ev (eC (.int 1)))) (aCons (eC (.str "")) (aCons (eC (.str "1")) (aCons (eFrz (eLst aNil)) (aCons (eTup aNil) (aCons (eFrz eDct0) (aCons (eP2 bAdd (.ev (eP2 bPow (.ev (eC (.int 10))) (.ev (eC (.int 9))))) (.ev (eC (.int 1)))) aNil))))))))))))) (.ev (eCall f__law_draw [(.nm 0), (.ev (eC (.int 10)))] []))))
    (sSeq (sSet 7 (eP2 ix (.ev (eFrz (eLst (aCons (eC (.str "Aa")) (aCons (eC (.str "")) (aCons (eC (.str "abcdefghi")) (aCons (eC (.str "a b")) (aCons (eC (.str "a1")) (aCons (eC .non) (aCons (eC (.int 1)) (aCons (eC (.bl true)) (aCons (eTup (aCons (eC (.str "a")) aNil)) (aCons (eFrz (eLst (aCons (eNm 4) aNil))) aNil))))))))))))) (.ev (eCall f__law_draw [(.nm 0), (.ev (eC (.int 10)))] []))))
    (sSeq (sSet 8 (eLst (aCons (eTup (aCons (eNm 4) (aCons (eNm 6) aNil))) (aCons (eTup (aCons (eNm 7) (aCons (eNm 5) aNil))) (aCons (eTup (aCons (eNm 4) aNil)) (aCons (eTup (aCons (eNm 4) (aCons (eNm 5) (aCons (eC (.int 1)) aNil)))) (aCons (eFrz (eLst (aCons (eNm 4) (aCons (eNm 5) aNil)))) (aCons (eNm 4) (aCons (eNm 6) aNil)))))))))
    (sSeq (sSet 8 (eP2 bAdd (.nm 8) (.ev (eLst (aCons (eTup (aCons (eC (.str "key")) (aCons (eC (.int 2)) aNil))) (aCons (eTup (aCons (eNm 4) (aCons (eNm 6) aNil))) aNil))))))
    (sSeq (sIf (tPV2 cLt (.nm 3) (.ev (eC (.int 9)))) (sRet (eP2 bAdd (.ev (eP2 bAdd (.ev (eSl (.nm 1) none (some (eNm 2)))) (.ev (eTup (aCons (eP2 ix (.nm 8) (.nm 3)) aNil))))) (.ev (eSl (.nm 1) (some (eP2 bAdd (.nm 2) (.ev (eC (.int 1))))) none)))) sNx)
    (sSeq (sSet 9 (eP1 fTuple (.ev (eComp [11] (iS (eC (.str "hgfedcba"))) (bN 11) tYes (eTup (aCons (eNm 11) (aCons (eC (.int 1)) aNil)))))))
    (sSeq (sSet 10 (eP2 bAdd (.ev (eP2 bAdd (.ev (eSl (.nm 1) none (some (eNm 2)))) (.ev (eTup (aCons (eP2 ix (.nm 1) (.nm 2)) aNil))))) (.ev (eSl (.nm 1) (some (eNm 2)) none))))
    (sRet (eP2 ix (.ev (eFrz (eLst (aCons (eNm 10) (aCons (eFrz (eP1 fList (.nm 1))) (aCons (eTup aNil) (aCons (eNm 9) (aCons (eC .non) (aCons (eNm 4) (aCons (eP2 ix (.nm 1) (.nm 2)) aNil)))))))))) (.ev (eP2 bSub (.nm 3) (.ev (eC (.int 9))))))))))))))))
def f__law_wrong_shown : FF := mk [true, true] 12 b__law_wrong_shown
def b__law_wrong_tests : SF := (sSeq (sPar2 3 4 (aCons (eCall f__law_draw [(.nm 0), (.ev (eP2 bPow (.ev (eC (.int 10))) (.ev (eC (.int 30)))))] []) (aCons (eCall f__law_draw [(.nm 0), (.ev (eC (.int 28)))] []) aNil)))
    (sSeq (sSet 5 (eLst (aCons (eTup (aCons (eC (.str "is")) (aCons (eC (.str "key")) (aCons (eNm 3) aNil)))) (aCons (eTup (aCons (eC (.str "is")) (aCons (eNm 2) aNil))) (aCons (eTup (aCons (eC (.str "is")) (aCons (eNm 2) (aCons (eP2 bSub (.ev (eP1 uNeg (.ev (eC (.int 1))))) (.nm 3)) aNil)))) (aCons (eTup (aCons (eC (.str "is")) (aCons (eNm 2) (aCons (eC (.bl true)) aNil)))) aNil))))))
    (sSeq (sSet 5 (eP2 bAdd (.nm 5) (.ev (eLst (aCons (eTup (aCons (eC (.str "is")) (aCons (eNm 2) (aCons (eP2 bPow (.ev (eC (.int 10))) (.ev (eC (.int 30)))) aNil)))) (aCons (eTup (aCons (eC (.str "is")) (aCons (eNm 2) (aCons (eC (.str "1")) aNil)))) (aCons (eTup (aCons (eC (.str "below")) (aCons (eNm 2) (aCons (eC .non) aNil)))) (aCons (eTup (aCons (eC (.str "below")) (aCons (eNm 2) (aCons (eP1 uNeg (.ev (eC (.int 1)))) aNil)))) aNil))))))))
    (sSeq (sSet 5 (eP2 bAdd (.nm 5) (.ev (eLst (aCons (eTup (aCons (eC (.str "from")) (aCons (eNm 2) (aCons (eP2 bAdd (.ev (eP2 bPow (.ev (eC (.int 10))) (.ev (eC (.int 30))))) (.nm 3)) aNil)))) (aCons (eTup (aCons (eC (.str "from")) (aCons (eNm 2) aNil))) (aCons (eTup (aCons (eC (.str "filled")) (aCons (eNm 2) (aCons (eNm 3) aNil)))) (aCons (eTup (aCons (eC (.str "filled")) aNil)) aNil))))))))
    (sSeq (sSet 5 (eP2 bAdd (.nm 5) (.ev (eLst (aCons (eTup (aCons (eC (.str "odd")) (aCons (eNm 2) (aCons (eNm 3) aNil)))) (aCons (eTup (aCons (eC (.str "")) (aCons (eNm 2) (aCons (eNm 3) aNil)))) (aCons (eTup (aCons (eC .non) (aCons (eNm 2) (aCons (eC (.int 1)) aNil)))) (aCons (eTup (aCons (eC (.int 1)) (aCons (eNm 2) (aCons (eC (.int 1)) aNil)))) aNil))))))))
    (sSeq (sSet 5 (eP2 bAdd (.nm 5) (.ev (eFrz (eLst (aCons (eFrz (eLst (aCons (eC (.str "filled")) (aCons (eNm 2) aNil)))) (aCons (eC (.str "filled")) (aCons (eC .non) (aCons (eTup aNil) (aCons (eTup (aCons (eC (.str "filled")) (aCons (eC (.str "Aa")) aNil))) (aCons (eTup (aCons (eC (.str "filled")) (aCons (eC (.int 1)) aNil))) (aCons (eFrz (eTup (aCons (eFrz (eLst (aCons (eC (.str "is")) aNil))) (aCons (eNm 2) (aCons (eC (.int 1)) aNil))))) aNil))))))))))))
    (sSeq (sSet 5 (eP2 bAdd (.nm 5) (.ev (eLst (aCons (eTup (aCons (eC (.str "filled")) (aCons (eC (.str "key")) aNil))) (aCons (eTup (aCons (eC (.str "from")) (aCons (eNm 2) (aCons (eC (.bl false)) aNil)))) (aCons (eTup (aCons (eC (.str "is")) (aCons (eNm 2) (aCons (eC (.int 1)) (aCons (eC (.int 1)) aNil))))) aNil)))))))
    (sSeq (sIf (tPV2 cLt (.nm 4) (.ev (eC (.int 26)))) (sSeq (sSet 6 (eCall f__law_draw [(.nm 0), (.ev (eP2 bAdd (.ev (eP1 fLen (.nm 1))) (.ev (eC (.int 1)))))] []))
    (sRet (eP2 bAdd (.ev (eP2 bAdd (.ev (eSl (.nm 1) none (some (eNm 6)))) (.ev (eTup (aCons (eP2 ix (.nm 5) (.nm 4)) aNil))))) (.ev (eSl (.nm 1) (some (eNm 6)) none))))) sNx)
    (sRet (eP2 ix (.ev (eFrz (eLst (aCons (eFrz (eP1 fList (.nm 1))) (aCons (eC .non) aNil))))) (.ev (eP2 bSub (.nm 4) (.ev (eC (.int 26)))))))))))))))
def f__law_wrong_tests : FF := mk [true, true, true] 7 b__law_wrong_tests
def b__law_refused : SF := (sSeq (sSet 2 (eC .non))
    (sSeq (sTry 8 (sIf (tPV2 cEq (.nm 1) (.ev (eC (.int 0)))) (sDo (eMake 8 (permF [0, 1, 2, 3] [0, 1, 2, 3] f_Sending___init__) ([(.ev (eP2 ix (.nm 0) (.ev (eC (.int 0))))), (.ev (eP2 ix (.nm 0) (.ev (eC (.int 1))))), (.ev (eP2 ix (.nm 0) (.ev (eC (.int 2)))))] ++ []) (gP [] [(.tup []), (.bl false)]))) (sIf (tPV2 cEq (.nm 1) (.ev (eC (.int 1)))) (sDo (eMake 8 (permF [0, 3, 2, 1] [0, 3, 2, 1] f_Sending___init__) [(.ev (eP2 ix (.nm 0) (.ev (eC (.int 2))))), (.ev (eP2 ix (.nm 0) (.ev (eC (.int 1))))), (.ev (eP2 ix (.nm 0) (.ev (eC (.int 0)))))] (gP [] [(.tup []), (.bl false)]))) (sDo (eMake 8 (permF [0, 1, 2, 3] [0, 1, 2, 3] f_Sending___init__) ([(.ev (eP2 ix (.nm 0) (.ev (eC (.int 0))))), (.ev (eP2 ix (.nm 0) (.ev (eC (.int 1)))))] ++ [(.ev (eP2 ix (.nm 0) (.ev (eC (.int 2)))))]) (gP [] [(.tup []), (.bl false)]))))) [([2], some 3, (sSeq (sSet 4 (eT (tPV (isaX 8 [1, 3, 4, 7]) (.nm 3))))
    (sSet 2 (eTup (aCons (eP1 (xfld 2 0) (.nm 3)) (aCons (eAnd (tE (eT (tPV (isaX 8 [0, 1, 2, 3, 4, 5, 6, 7]) (.nm 3)))) (eAnd (tE (eT (tPV (isaX 8 [0, 1, 2, 3, 4, 5, 6, 7]) (.nm 3)))) (eT (tNot (tE (eNm 4)))))) aNil))))))])
    (sRet (eMv 2))))
def f__law_refused : FF := mk [true, true] 5 b__law_refused
def b_Sending_parts : SF := (sRet (eTup (aCons (eP1 (pj [(8, 0)] onlyFro) (.nm 0)) (aCons (eP1 (pj [(8, 1)] onlyFro) (.nm 0)) (aCons (eP1 (pj [(8, 2)] onlyFro) (.nm 0)) aNil)))))
def f_Sending_parts : FF := mk [true] 1 b_Sending_parts
def b_Sending___eq__ : SF := (sRet (eAnd (tE (eT (tPV (isaK [8, 9] [8]) (.nm 1)))) (eT (tPV2 cEq (.ev (eMeth [(8, f_Sending_parts)] (.nm 0) [] [])) (.ev (eMeth [(8, f_Sending_parts)] (.nm 1) [] []))))))
def f_Sending___eq__ : FF := mk [true, true] 2 b_Sending___eq__
def b_Sheet___eq__ : SF := (sRet (eAnd (tE (eT (tPV (isaK [8, 9] [9]) (.nm 1)))) (eAnd (tE (eT (tPV2 (pj2 [(9, 0)] [(9, 0)] cEq) (.nm 0) (.nm 1)))) (eT (tPV2 (pj2 [(9, 1)] [(9, 1)] cEq) (.nm 0) (.nm 1))))))
def f_Sheet___eq__ : FF := mk [true, true] 2 b_Sheet___eq__
def b__law_good_right : SF := (sSeq (sSet 2 (eMake 8 (permF [0, 1, 2, 3] [0, 1, 2, 3] f_Sending___init__) ([(.ev (eP2 ix (.nm 0) (.ev (eC (.int 0))))), (.ev (eP2 ix (.nm 0) (.ev (eC (.int 1))))), (.ev (eP2 ix (.nm 0) (.ev (eC (.int 2)))))] ++ []) (gP [] [(.tup []), (.bl false)])))
    (sSeq (sSet 3 (eMake 8 (permF [0, 2, 1, 3] [0, 2, 1, 3] f_Sending___init__) [(.ev (eP2 ix (.nm 0) (.ev (eC (.int 1))))), (.ev (eP2 ix (.nm 0) (.ev (eC (.int 0))))), (.ev (eP2 ix (.nm 0) (.ev (eC (.int 2)))))] (gP [] [(.tup []), (.bl false)])))
    (sSeq (sSet 4 (eP1 fTuple (.ev (eComp [8, 9] (iE (eP2 ix (.nm 0) (.ev (eC (.int 0))))) (bT [(bN 8), (bN 9)]) tYes (eNm 8)))))
    (sSeq (sIf (tNot (tE (eCall (f__law_same 6) [(.ev (eLst (aCons (eFrz (eMeth [(8, f_Sending_names), (9, f_Sheet_names)] (.nm 2) [] [])) (aCons (eFrz (eMeth [(8, f_Sending_parts)] (.nm 2) [] [])) aNil)))), (.ev (eLst (aCons (eNm 4) (aCons (eNm 0) aNil))))] []))) (sRet (eC (.bl false))) sNx)
    (sSeq (sSet 5 (eMake 8 (permF [0, 1, 2, 3] [0, 1, 2, 3] f_Sending___init__) ([(.ev (eP2 ix (.nm 0) (.ev (eC (.int 0)))))] ++ []) (gP [0, 1] [(.tup []), (.bl false)])))
    (sSeq (sIf (tNot (tE (eCall (f__law_same 6) [(.ev (eMeth [(8, f_Sending_parts)] (.nm 5) [] [])), (.ev (eTup (aCons (eP2 ix (.nm 0) (.ev (eC (.int 0)))) (aCons (eTup aNil) (aCons (eC (.bl false)) aNil)))))] []))) (sRet (eC (.bl false))) sNx)
    (sSeq (sIf (tOr (tPV2 cNe (.ev (eT (tEqI [8, 9] [(8, f_Sending___eq__), (9, f_Sheet___eq__)] (.nm 5) (.nm 2)))) (.ev (eT (tPV2 cEq (.ev (eMeth [(8, f_Sending_parts)] (.nm 5) [] [])) (.nm 0))))) (tEqI [8, 9] [(8, f_Sending___eq__), (9, f_Sheet___eq__)] (.nm 2) (.nm 0))) (sRet (eC (.bl false))) sNx)
    (sSeq (sSet 6 (eMake 8 (permF [0, 1, 2, 3] [0, 1, 2, 3] f_Sending___init__) ([(.ev (eP2 ix (.nm 0) (.ev (eC (.int 0))))), (.ev (eIf (tPV2 cNe (.ev (eP2 ix (.nm 0) (.ev (eC (.int 1))))) (.ev (eTup aNil))) (eSl (.ev (eP2 ix (.nm 0) (.ev (eC (.int 1))))) (some (eC (.int 1))) none) (eNm 1))), (.ev (eP2 ix (.nm 0) (.ev (eC (.int 2)))))] ++ []) (gP [] [(.tup []), (.bl false)])))
    (sSeq (sIf (tOr (tEqI [8, 9] [(8, f_Sending___eq__), (9, f_Sheet___eq__)] (.nm 6) (.nm 2)) (tEqI [8, 9] [(8, f_Sending___eq__), (9, f_Sheet___eq__)] (.ev (eMake 8 (permF [0, 1, 2, 3] [0, 1, 2, 3] f_Sending___init__) ([(.ev (eP2 ix (.nm 0) (.ev (eC (.int 0))))), (.ev (eP2 ix (.nm 0) (.ev (eC (.int 1))))), (.ev (eT (tNot (tE (eP2 ix (.nm 0) (.ev (eC (.int 2))))))))] ++ []) (gP [] [(.tup []), (.bl false)]))) (.nm 2))) (sRet (eC (.bl false))) sNx)
    (sSeq (sIf (tPV2 cNe (.ev (eT (tEqI [8, 9] [(8, f_Sending___eq__), (9, f_Sheet___eq__)] (.ev (eMake 8 (permF [0, 1, 2, 3] [0, 1, 2, 3] f_Sending___init__) ([(.ev (eP1 rvA (.ev (eP2 ix (.nm 0) (.ev (eC (.int 0))))))), (.ev (eP2 ix (.nm 0) (.ev (eC (.int 1))))), (.ev (eP2 ix (.nm 0) (.ev (eC (.int 2)))))] ++ []) (gP [] [(.tup []), (.bl false)]))) (.nm 2)))) (.ev (eT (tPV2 cEq (.ev (eP1 fLen (.ev (eP2 ix (.nm 0) (.ev (eC (.int 0))))))) (.ev (eC (.int 1))))))) (sRet (eC (.bl false))) sNx)
    (sSeq (sSet 7 (eP1 fTuple (.ev (eComp [8, 9] (iE (eP2 ix (.nm 0) (.ev (eC (.int 0))))) (bT [(bN 8), (bN 9)]) tYes (eTup (aCons (eNm 8) (aCons (eIf (tPV2 cEq (.nm 8) (.ev (eC (.str "key")))) (eC (.int 1)) (eP2 bAdd (.ev (eC (.int 1))) (.ev (eP1 fInt (.ev (eT (tPV2 cEq (.nm 9) (.ev (eC (.int 1)))))))))) aNil)))))))
    (sSeq (sIf (tPV2 cNe (.ev (eT (tEqI [8, 9] [(8, f_Sending___eq__), (9, f_Sheet___eq__)] (.ev (eMake 8 (permF [0, 1, 2, 3] [0, 1, 2, 3] f_Sending___init__) ([(.nm 7), (.ev (eP2 ix (.nm 0) (.ev (eC (.int 1))))), (.ev (eP2 ix (.nm 0) (.ev (eC (.int 2)))))] ++ []) (gP [] [(.tup []), (.bl false)]))) (.nm 2)))) (.ev (eT (tPV2 cEq (.nm 7) (.ev (eP2 ix (.nm 0) (.ev (eC (.int 0))))))))) (sRet (eC (.bl false))) sNx)
    (sRet (eAnd (tE (eT (tEqI [8, 9] [(8, f_Sending___eq__), (9, f_Sheet___eq__)] (.nm 2) (.nm 3)))) (eAnd (tE (eT (tEqI [8, 9] [(8, f_Sending___eq__), (9, f_Sheet___eq__)] (.nm 3) (.nm 2)))) (eT (tNot (tE (eT (tNot (tEqI [8, 9] [(8, f_Sending___eq__), (9, f_Sheet___eq__)] (.nm 2) (.nm 3))))))))))))))))))))))
def f__law_good_right : FF := mk [true, true] 10 b__law_good_right
def b__law_right : SF := (sSeq (sSet 2 (eCall f__law_names [(.nm 0), (.ev (eP2 bAdd (.ev (eC (.int 1))) (.ev (eCall f__law_draw [(.nm 0), (.ev (eC (.int 6)))] []))))] []))
    (sSeq (sSet 3 (eLst (aCons (eCall f__law_shown [(.nm 0), (.nm 2)] []) (aCons (eSl (.ev (eCall f__law_tests [(.nm 0), (.nm 2), (.ev (eCall f__law_pool [(.nm 0)] []))] [])) none (some (eC (.int 3)))) (aCons (eT (tPV2 cEq (.nm 1) (.ev (eC (.int 2))))) aNil)))))
    (sSeq (sPar3 4 5 6 (aCons (eP1 fTuple (.nm 3)) (aCons (eCall f__law_draw [(.nm 0), (.ev (eC (.int 8)))] []) (aCons (eC .non) aNil))))
    (sSeq (sIf (tPV2 cGt (.nm 5) (.ev (eC (.int 3)))) (sSeq (sPutL 3 (eC (.int 2)) (eP2 ix (.ev (eFrz (eLst (aCons (eC (.int 0)) (aCons (eC (.int 1)) (aCons (eC .non) (aCons (eC (.str "")) (aCons (eFrz (eLst aNil)) (aCons (eC (.str "no")) aNil))))))))) (.ev (eCall f__law_draw [(.nm 0), (.ev (eC (.int 6)))] []))))
    (sSet 6 (eC (.str "once")))) sNx)
    (sSeq (sIf (tPV2 cEq (.ev (eP2 bMod (.ev (eP1 fInt (.ev (eP2 bDiv (.nm 5) (.ev (eC (.int 2))))))) (.ev (eC (.int 2))))) (.ev (eC (.int 1)))) (sSeq (sPutL 3 (eC (.int 1)) (eCall f__law_wrong_tests [(.nm 0), (.ev (eP2 ix (.nm 3) (.ev (eC (.int 1))))), (.ev (eP2 ix (.nm 2) (.ev (eC (.int 0)))))] []))
    (sSet 6 (eC (.str "tests")))) sNx)
    (sSeq (sIf (tPV2 cEq (.ev (eP2 bMod (.ev (eP1 fInt (.nm 5))) (.ev (eC (.int 2))))) (.ev (eC (.int 1)))) (sSeq (sPutL 3 (eC (.int 0)) (eCall f__law_wrong_shown [(.nm 0), (.ev (eP2 ix (.nm 3) (.ev (eC (.int 0)))))] []))
    (sSet 6 (eC (.str "shown")))) sNx)
    (sSeq (sSet 7 (eCall f__law_refused [(.nm 3), (.ev (eCall f__law_draw [(.nm 0), (.ev (eC (.int 3)))] []))] []))
    (sSeq (sIf (tNot (tE (eCall (f__law_same 6) [(.nm 7), (.ev (eIf (tPV cIsN (.nm 6)) (eC .non) (eTup (aCons (eNm 6) (aCons (eC (.bl true)) aNil)))))] []))) (sRet (eC (.bl false))) sNx)
    (sRet (eOr (tE (eT (tPV cNotN (.nm 6)))) (eCall f__law_good_right [(.nm 4), (.ev (eTup (aCons (eTup (aCons (eC (.str "filled")) (aCons (eP2 ix (.nm 2) (.ev (eC (.int 0)))) aNil))) aNil)))] [])))))))))))
def f__law_right : FF := mk [true, true] 8 b__law_right
def b_law : SF := (sSeq (sFor (iRange1 (eP2 fMax2 (.ev (eC (.int 1))) (.ev (eP2 fMin2 (.ev (eC (.int 10))) (.ev (eP1 fLen (.nm 0))))))) (bN 1) (sSeq (sSet 2 (eCall f__law_well [(.nm 0), (.nm 1)] []))
    (sFor (iRange1 (eC (.int 5))) (bN 3) (sIf (tNot (tE (eCall f__law_right [(.nm 2), (.nm 3)] []))) (sRet (eC (.bl false))) sNx))))
    (sSeq (sSet 4 (eMake 8 (permF [0, 1, 2, 3] [0, 1, 2, 3] f_Sending___init__) ([(.ev (eP1 fTuple (.ev (eComp [5] (iS (eC (.str "abcdefg"))) (bN 5) tYes (eTup (aCons (eNm 5) (aCons (eC (.int 2)) aNil)))))))] ++ []) (gP [0, 1] [(.tup []), (.bl false)])))
    (sRet (eCall (f__law_same 6) [(.ev (eMeth [(8, f_Sending_names), (9, f_Sheet_names)] (.nm 4) [] [])), (.ev (eP1 fTuple (.ev (eP1 fListS (.ev (eC (.str "abcdefg")))))))] []))))
def f_law : FF := mk [true] 6 b_law
end Law
set_option Elab.async false
set_option linter.all false
set_option maxRecDepth 100000
set_option maxHeartbeats 4000000
namespace Law
open PySem PySem.Spec L2 Tr
def top (i : Nat) : Stmt := PySem.Challenge.pw_sheetback_k14_sendings_refused.main.body.getD i (.Pass ⟨0, 0, 0, 0⟩)
structure Txt (K : PySem.W.Frag) (mg : Str → Option Value) (c : RC) : Prop where
  hK : K = c.K
  g_GREATEST_GRAIN : GlobOk c mg "GREATEST_GRAIN" (.int 1000000000)
  g_KEY : GlobOk c mg "KEY" (.str "key")
  g_LETTERS : GlobOk c mg "LETTERS" (.str "abcdefghijklmnopqrstuvwxyz")
  g_MOST : GlobOk c mg "MOST" (.int 1000000000000000000000000000000)
  g_MOST_SHOWN : GlobOk c mg "MOST_SHOWN" (.int 7)
  b_ValueError : mg "ValueError" = none
  b_abs : mg "abs" = none
  b_all : mg "all" = none
  b_bool : mg "bool" = none
  b_int : mg "int" = none
  b_isinstance : mg "isinstance" = none
  b_len : mg "len" = none
  b_list : mg "list" = none
  b_max : mg "max" = none
  b_min : mg "min" = none
  b_range : mg "range" = none
  b_set : mg "set" = none
  b_str : mg "str" = none
  b_tuple : mg "tuple" = none
  d_are_distinct : ∃ f fd, mg "are_distinct" = some (.ref f) ∧ Fun K "are_distinct" "are_distinct" (top 17) f fd ∧ Binds K fd ["things"] []
  d_is_name : ∃ f fd, mg "is_name" = some (.ref f) ∧ Fun K "is_name" "is_name" (top 15) f fd ∧ Binds K fd ["thing"] []
  d_is_item : ∃ f fd, mg "is_item" = some (.ref f) ∧ Fun K "is_item" "is_item" (top 16) f fd ∧ Binds K fd ["thing"] []
  d_is_whole : ∃ f fd, mg "is_whole" = some (.ref f) ∧ Fun K "is_whole" "is_whole" (top 14) f fd ∧ Binds K fd ["thing"] []
  d_is_grain : ∃ f fd, mg "is_grain" = some (.ref f) ∧ Fun K "is_grain" "is_grain" (top 24) f fd ∧ Binds K fd ["thing"] []
  d_is_show : ∃ f fd, mg "is_show" = some (.ref f) ∧ Fun K "is_show" "is_show" (top 25) f fd ∧ Binds K fd ["thing"] []
  d_are_shown : ∃ f fd, mg "are_shown" = some (.ref f) ∧ Fun K "are_shown" "are_shown" (top 26) f fd ∧ Binds K fd ["thing"] []
  d_is_number : ∃ f fd, mg "is_number" = some (.ref f) ∧ Fun K "is_number" "is_number" (top 19) f fd ∧ Binds K fd ["thing"] []
  d_is_cell : ∃ f fd, mg "is_cell" = some (.ref f) ∧ Fun K "is_cell" "is_cell" (top 20) f fd ∧ Binds K fd ["thing"] []
  d_is_test : ∃ f fd, mg "is_test" = some (.ref f) ∧ Fun K "is_test" "is_test" (top 27) f fd ∧ Binds K fd ["thing"] []
  d_are_tests : ∃ f fd, mg "are_tests" = some (.ref f) ∧ Fun K "are_tests" "are_tests" (top 28) f fd ∧ Binds K fd ["thing"] []
  m_Sending___init__ : ∃ f fd, MTxD K c 8 "__init__" "Sending.__init__" (inClass (top 32) 0) [(.tup []), (.bl false)] f fd
  m_Sending_names : ∃ f fd, MTx K c 8 "names" "Sending.names" (inClass (top 32) 1) ["self"] f fd
  m_Sheet_names : ∃ f fd, MTx K c 9 "names" "Sheet.names" (inClass (top 33) 11) ["self"] f fd
  d__law_well : ∃ f fd, mg "_law_well" = some (.ref f) ∧ Fun K "_law_well" "_law_well" (top 35) f fd ∧ Binds K fd ["_law_script", "_law_at"] []
  d__law_same : ∃ f fd, mg "_law_same" = some (.ref f) ∧ Fun K "_law_same" "_law_same" (top 42) f fd ∧ Binds K fd ["_law_found", "_law_due"] []
  d__law_draw : ∃ f fd, mg "_law_draw" = some (.ref f) ∧ Fun K "_law_draw" "_law_draw" (top 36) f fd ∧ Binds K fd ["_law_well_here", "_law_below"] []
  d__law_names : ∃ f fd, mg "_law_names" = some (.ref f) ∧ Fun K "_law_names" "_law_names" (top 37) f fd ∧ Binds K fd ["_law_well_here", "_law_many"] []
  d__law_number : ∃ f fd, mg "_law_number" = some (.ref f) ∧ Fun K "_law_number" "_law_number" (top 38) f fd ∧ Binds K fd ["_law_well_here"] []
  d__law_pool : ∃ f fd, mg "_law_pool" = some (.ref f) ∧ Fun K "_law_pool" "_law_pool" (top 39) f fd ∧ Binds K fd ["_law_well_here"] []
  d__law_tests : ∃ f fd, mg "_law_tests" = some (.ref f) ∧ Fun K "_law_tests" "_law_tests" (top 40) f fd ∧ Binds K fd ["_law_well_here", "_law_columns", "_law_pool_here"] []
  d__law_shown : ∃ f fd, mg "_law_shown" = some (.ref f) ∧ Fun K "_law_shown" "_law_shown" (top 41) f fd ∧ Binds K fd ["_law_well_here", "_law_columns"] []
  d__law_wrong_shown : ∃ f fd, mg "_law_wrong_shown" = some (.ref f) ∧ Fun K "_law_wrong_shown" "_law_wrong_shown" (top 43) f fd ∧ Binds K fd ["_law_well_here", "_law_good"] []
  d__law_wrong_tests : ∃ f fd, mg "_law_wrong_tests" = some (.ref f) ∧ Fun K "_law_wrong_tests" "_law_wrong_tests" (top 44) f fd ∧ Binds K fd ["_law_well_here", "_law_good", "_law_head"] []
  d__law_refused : ∃ f fd, mg "_law_refused" = some (.ref f) ∧ Fun K "_law_refused" "_law_refused" (top 45) f fd ∧ Binds K fd ["_law_parts", "_law_way"] []
  m_Sending_parts : ∃ f fd, MTx K c 8 "parts" "Sending.parts" (inClass (top 32) 2) ["self"] f fd
  m_Sending___eq__ : ∃ f fd, MTx K c 8 "__eq__" "Sending.__eq__" (inClass (top 32) 8) ["self", "other"] f fd
  m_Sheet___eq__ : ∃ f fd, MTx K c 9 "__eq__" "Sheet.__eq__" (inClass (top 33) 14) ["self", "other"] f fd
  d__law_good_right : ∃ f fd, mg "_law_good_right" = some (.ref f) ∧ Fun K "_law_good_right" "_law_good_right" (top 46) f fd ∧ Binds K fd ["_law_parts", "_law_more"] []
  d__law_right : ∃ f fd, mg "_law_right" = some (.ref f) ∧ Fun K "_law_right" "_law_right" (top 47) f fd ∧ Binds K fd ["_law_well_here", "_law_turn"] []
  d_law : ∃ f fd, mg "law" = some (.ref f) ∧ Fun K "law" "law" (top 48) f fd ∧ Binds K fd ["_law_script"] []
  xg : XG K
  x_SheetError : XT K mg c 0 "SheetError"
  x_NoColumns : XT K mg c 1 "NoColumns"
  x_NoSending : XT K mg c 2 "NoSending"
  x_NoJoining : XT K mg c 3 "NoJoining"
  x_NoMeanwhile : XT K mg c 4 "NoMeanwhile"
  x_NoLine : XT K mg c 5 "NoLine"
  x_NoCells : XT K mg c 6 "NoCells"
  x_NoText : XT K mg c 7 "NoText"
  xall : XAll K mg c 8
  cf_NoSending : c.cF 2 = (["part"] : List Str)
  o_NoSending : OexC K (c.cA 2)
  no_NoSending_part : PySem.W.findIn K (.ref (c.cA 2)) "part" = some none
  i_NoSending : ∃ fI fdI, PySem.W.findIn K (.ref (c.cA 2)) "__init__" = some (some (.ref fI)) ∧ PySem.W.typeIn K (.ref fI) = some (.type "function") ∧ Fun K "__init__" "NoSending.__init__" (inClass (top 4) 0) fI fdI ∧ Binds K fdI ["self", "part"] []
  cf_NoJoining : c.cF 3 = (["part"] : List Str)
  o_NoJoining : OexC K (c.cA 3)
  no_NoJoining_part : PySem.W.findIn K (.ref (c.cA 3)) "part" = some none
  i_NoJoining : ∃ fI fdI, PySem.W.findIn K (.ref (c.cA 3)) "__init__" = some (some (.ref fI)) ∧ PySem.W.typeIn K (.ref fI) = some (.type "function") ∧ Fun K "__init__" "NoJoining.__init__" (inClass (top 5) 0) fI fdI ∧ Binds K fdI ["self", "part"] []
  cf_NoMeanwhile : c.cF 4 = (["part"] : List Str)
  o_NoMeanwhile : OexC K (c.cA 4)
  no_NoMeanwhile_part : PySem.W.findIn K (.ref (c.cA 4)) "part" = some none
  i_NoMeanwhile : ∃ fI fdI, PySem.W.findIn K (.ref (c.cA 4)) "__init__" = some (some (.ref fI)) ∧ PySem.W.typeIn K (.ref fI) = some (.type "function") ∧ Fun K "__init__" "NoMeanwhile.__init__" (inClass (top 6) 0) fI fdI ∧ Binds K fdI ["self", "part"] []
  cf_NoLine : c.cF 5 = (["index"] : List Str)
  o_NoLine : OexC K (c.cA 5)
  no_NoLine_index : PySem.W.findIn K (.ref (c.cA 5)) "index" = some none
  i_NoLine : ∃ fI fdI, PySem.W.findIn K (.ref (c.cA 5)) "__init__" = some (some (.ref fI)) ∧ PySem.W.typeIn K (.ref fI) = some (.type "function") ∧ Fun K "__init__" "NoLine.__init__" (inClass (top 7) 0) fI fdI ∧ Binds K fdI ["self", "index"] []
  cf_NoCells : c.cF 6 = (["index"] : List Str)
  o_NoCells : OexC K (c.cA 6)
  no_NoCells_index : PySem.W.findIn K (.ref (c.cA 6)) "index" = some none
  i_NoCells : ∃ fI fdI, PySem.W.findIn K (.ref (c.cA 6)) "__init__" = some (some (.ref fI)) ∧ PySem.W.typeIn K (.ref fI) = some (.type "function") ∧ Fun K "__init__" "NoCells.__init__" (inClass (top 8) 0) fI fdI ∧ Binds K fdI ["self", "index"] []
  cf_NoText : c.cF 7 = (["part"] : List Str)
  o_NoText : OexC K (c.cA 7)
  no_NoText_part : PySem.W.findIn K (.ref (c.cA 7)) "part" = some none
  i_NoText : ∃ fI fdI, PySem.W.findIn K (.ref (c.cA 7)) "__init__" = some (some (.ref fI)) ∧ PySem.W.typeIn K (.ref fI) = some (.type "function") ∧ Fun K "__init__" "NoText.__init__" (inClass (top 9) 0) fI fdI ∧ Binds K fdI ["self", "part"] []
  s_NoColumns : XS K c 8 (.ref (c.cA 1)) [1]
  s_NoJoining : XS K c 8 (.ref (c.cA 3)) [3]
  s_NoMeanwhile : XS K c 8 (.ref (c.cA 4)) [4]
  s_NoSending : XS K c 8 (.ref (c.cA 2)) [2]
  s_NoText : XS K c 8 (.ref (c.cA 7)) [7]
  s_SheetError : XS K c 8 (.ref (c.cA 0)) [0, 1, 2, 3, 4, 5, 6, 7]
  s_ValueError : XS K c 8 (.type "ValueError") [0, 1, 2, 3, 4, 5, 6, 7]
  cts : CTs K mg c [8, 9]
  ct_Sending : CT K mg c 8 "Sending"
  cF_Sending : c.cF 8 = (["shown", "tests", "once"] : List Str)
  mk_Sending : PySem.W.makesIn K (c.cA 8) = true
  kp_Sending : PySem.W.keepIn K (.ref (c.cA 8)) = true
  ns_Sending : PySem.W.noSeq K (c.cA 8) = true
  nf_Sending : ∀ k', ([8, 9] : List Nat).contains k' = true → PySem.W.notFirst K (c.cA 8) (.ref (c.cA k')) = true
  is_Sending : ∀ k', ([8, 9] : List Nat).contains k' = true → PySem.W.kitOne K (.ref (c.cA k')) (.ref (c.cA 8)) = some (([8] : List Nat).contains k')
  ct_Sheet : CT K mg c 9 "Sheet"
  cF_Sheet : c.cF 9 = (["heads", "body"] : List Str)
  mk_Sheet : PySem.W.makesIn K (c.cA 9) = true
  kp_Sheet : PySem.W.keepIn K (.ref (c.cA 9)) = true
  ns_Sheet : PySem.W.noSeq K (c.cA 9) = true
  nf_Sheet : ∀ k', ([8, 9] : List Nat).contains k' = true → PySem.W.notFirst K (c.cA 9) (.ref (c.cA k')) = true
  is_Sheet : ∀ k', ([8, 9] : List Nat).contains k' = true → PySem.W.kitOne K (.ref (c.cA k')) (.ref (c.cA 9)) = some (([9] : List Nat).contains k')
  ne_Sending : PySem.W.findIn K (.ref (c.cA 8)) "__ne__" = some (some (.builtin "object.__ne__"))
  ne_Sheet : PySem.W.findIn K (.ref (c.cA 9)) "__ne__" = some (some (.builtin "object.__ne__"))
  fl_body : FdOk K c [(9, 1)] "body"
  fl_heads : FdOk K c [(9, 0)] "heads"
  fl_once : FdOk K c [(8, 2)] "once"
  fl_shown : FdOk K c [(8, 0)] "shown"
  fl_tests : FdOk K c [(8, 1)] "tests"
section
variable {P : Program} {w : World} {K : PySem.W.Frag} {mg : Str → Option Value} {base : Heap} {c : RC}
theorem ok_init_NoSending (T : Txt K mg c) {f : Addr} {fd : FuncData} (F : Fun K "__init__" "NoSending.__init__" (inClass (top 4) 0) f fd) : FnOk P w K mg base (L2.CX P w) 1 f fd ["self", "part"] (spI K (c.cA 2) ["part"]) := by
  have sc : FnScope ["self", "part"] ["self", "part"] (defScope (inClass (top 4) 0)) := ⟨rfl, rfl, rfl, by decide +kernel, rfl, by decide +kernel, by decide +kernel⟩
  refine F.okX sc (fun vs H Q E h => ?_) fun cdv A outer s H vs Q E hr h => ⟨_, (pss_one (ps_ost (pv 0) (pv 1))), ?_⟩
  · obtain ⟨a, ys, rfl, hl, _⟩ := h; simpa using hl
  · refine (rd_I1 T.no_NoSending_part h ?_ fun _ _ q => q)
    obtain ⟨a, ys, rfl, hl, _⟩ := h
    match ys, hl with
    | [_], _ => rfl
theorem sc_are_distinct : FnScope ["things"] ["things"] (defScope (top 17)) := ⟨rfl, rfl, rfl, by decide +kernel, rfl, by decide +kernel, by decide +kernel⟩
theorem ok_are_distinct (T : Txt K mg c) : Def P w K mg base c 1 "are_distinct" (top 17) ["things"] f_are_distinct := by
  obtain ⟨f, fd, hm, F, hb⟩ := T.d_are_distinct
  refine ⟨f, fd, hm, F, hb, ok_def (N := ["things"]) (sem := b_are_distinct) [true] T.hK F sc_are_distinct rfl (by decide) ?_⟩
  rintro X W ⟨cdv, A, outer, s, H, E, rfl⟩ D
  exact (ss_one (ss_ret (e_eq (Dk.s D) (so_ev (e_lenSet D T.b_len (by rfl) T.b_set (by rfl) (so_nm (pv 0)))) (so_ev (e_len (Dk.s D) T.b_len (by rfl) (so_nm (pv 0)))))))
theorem sc_is_name : FnScope ["thing", "sign"] ["thing"] (defScope (top 15)) := ⟨rfl, rfl, rfl, by decide +kernel, rfl, by decide +kernel, by decide +kernel⟩
theorem ok_is_name (T : Txt K mg c) : Def P w K mg base c 1 "is_name" (top 15) ["thing"] f_is_name := by
  obtain ⟨f, fd, hm, F, hb⟩ := T.d_is_name
  refine ⟨f, fd, hm, F, hb, ok_def (N := ["thing", "sign"]) (sem := b_is_name) [true] T.hK F sc_is_name rfl (by decide) ?_⟩
  rintro X W ⟨cdv, A, outer, s, H, E, rfl⟩ D
  exact (ss_cons (ss_if (SW.st (sw_or (st_not (st_val (e_isa (Dk.s D) .str T.b_isinstance (by rfl) T.b_str (by rfl) (by decide +kernel) (by decide) (by decide) (so_nm (pv 0))))) (sw_or (st_not (t_lele (Dk.s D) (so_ev se_int) (so_ev (e_len (Dk.s D) T.b_len (by rfl) (so_nm (pv 0)))) (so_ev se_int))) (sw_or1 (t_eq (Dk.s D) (so_nm (pv 0)) (so_ev (e_glob T.g_KEY (by rfl)))))))) (ss_one (ss_ret se_bl)) ss_nil)
    (ss_one (ss_ret (e_all D T.b_all (by rfl) (so_ev (se_comp (own := [("sign", 1)]) D.calm D.nd (si_str (se_nm (pv 0))) ⟨blkOk_by (by kernel_rfl), (fun s H C cl fp => (sg_name (D.blk s H _ _ fp).nd rfl (by first | exact Or.inl rfl | exact Or.inr rfl) rfl)), (fun s H C cl fp => pts_yes), (fun s H C cl fp => (e_in (Dk.s (D.blk s H _ _ fp)) (so_nm (pv 1)) (so_ev (e_glob T.g_LETTERS (by rfl)))))⟩))))))
theorem sc_is_item : FnScope ["thing"] ["thing"] (defScope (top 16)) := ⟨rfl, rfl, rfl, by decide +kernel, rfl, by decide +kernel, by decide +kernel⟩
theorem ok_is_item (T : Txt K mg c) : Def P w K mg base c 2 "is_item" (top 16) ["thing"] f_is_item := by
  obtain ⟨f, fd, hm, F, hb⟩ := T.d_is_item
  refine ⟨f, fd, hm, F, hb, ok_def (N := ["thing"]) (sem := b_is_item) [true] T.hK F sc_is_item rfl (by decide) ?_⟩
  rintro X W ⟨cdv, A, outer, s, H, E, rfl⟩ D
  exact (ss_one (ss_ret (se_or (e_call D (ok_is_name T) (by decide) (by rfl) (sos_cons (so_nm (pv 0)) sos_nil) rfl) (se_one (se_and (e_isa (Dk.s D) .str T.b_isinstance (by rfl) T.b_str (by rfl) (by decide +kernel) (by decide) (by decide) (so_nm (pv 0))) (se_one (e_eq (Dk.s D) (so_nm (pv 0)) (so_ev (e_glob T.g_KEY (by rfl))))))))))
theorem sc_is_whole : FnScope ["thing"] ["thing"] (defScope (top 14)) := ⟨rfl, rfl, rfl, by decide +kernel, rfl, by decide +kernel, by decide +kernel⟩
theorem ok_is_whole (T : Txt K mg c) : Def P w K mg base c 1 "is_whole" (top 14) ["thing"] f_is_whole := by
  obtain ⟨f, fd, hm, F, hb⟩ := T.d_is_whole
  refine ⟨f, fd, hm, F, hb, ok_def (N := ["thing"]) (sem := b_is_whole) [true] T.hK F sc_is_whole rfl (by decide) ?_⟩
  rintro X W ⟨cdv, A, outer, s, H, E, rfl⟩ D
  exact (ss_one (ss_ret (se_and (e_isa (Dk.s D) .int T.b_isinstance (by rfl) T.b_int (by rfl) (by decide +kernel) (by decide) (by decide) (so_nm (pv 0))) (se_one (se_not (e_isa (Dk.s D) .bool T.b_isinstance (by rfl) T.b_bool (by rfl) (by decide +kernel) (by decide) (by decide) (so_nm (pv 0))))))))
theorem sc_is_grain : FnScope ["thing"] ["thing"] (defScope (top 24)) := ⟨rfl, rfl, rfl, by decide +kernel, rfl, by decide +kernel, by decide +kernel⟩
theorem ok_is_grain (T : Txt K mg c) : Def P w K mg base c 2 "is_grain" (top 24) ["thing"] f_is_grain := by
  obtain ⟨f, fd, hm, F, hb⟩ := T.d_is_grain
  refine ⟨f, fd, hm, F, hb, ok_def (N := ["thing"]) (sem := b_is_grain) [true] T.hK F sc_is_grain rfl (by decide) ?_⟩
  rintro X W ⟨cdv, A, outer, s, H, E, rfl⟩ D
  exact (ss_one (ss_ret (se_and (e_call D (ok_is_whole T) (by decide) (by rfl) (sos_cons (so_nm (pv 0)) sos_nil) rfl) (se_one (e_lele (Dk.s D) (so_ev se_int) (so_nm (pv 0)) (so_ev (e_glob T.g_GREATEST_GRAIN (by rfl))))))))
theorem sc_is_show : FnScope ["thing"] ["thing"] (defScope (top 25)) := ⟨rfl, rfl, rfl, by decide +kernel, rfl, by decide +kernel, by decide +kernel⟩
theorem ok_is_show (T : Txt K mg c) : Def P w K mg base c 3 "is_show" (top 25) ["thing"] f_is_show := by
  obtain ⟨f, fd, hm, F, hb⟩ := T.d_is_show
  refine ⟨f, fd, hm, F, hb, ok_def (N := ["thing"]) (sem := b_is_show) [true] T.hK F sc_is_show rfl (by decide) ?_⟩
  rintro X W ⟨cdv, A, outer, s, H, E, rfl⟩ D
  exact (ss_cons (ss_if (SW.st (sw_or (st_not (st_val (e_isa (Dk.s D) .tuple T.b_isinstance (by rfl) T.b_tuple (by rfl) (by decide +kernel) (by decide) (by decide) (so_nm (pv 0))))) (sw_or (t_ne (Dk.s D) (so_ev (e_len (Dk.s D) T.b_len (by rfl) (so_nm (pv 0)))) (so_ev se_int)) (sw_or (st_not (st_val (e_call D (ok_is_item T) (by decide) (by rfl) (sos_cons (so_ev (e_ix (Dk.s D) (so_nm (pv 0)) (so_ev se_int) (fun _ _ => rfl))) sos_nil) rfl))) (sw_or1 (st_not (st_val (e_call D (ok_is_grain T) (by decide) (by rfl) (sos_cons (so_ev (e_ix (Dk.s D) (so_nm (pv 0)) (so_ev se_int) (fun _ _ => rfl))) sos_nil) rfl)))))))) (ss_one (ss_ret se_bl)) ss_nil)
    (ss_one (ss_ret (se_or (e_ne (Dk.s D) (so_ev (e_ix (Dk.s D) (so_nm (pv 0)) (so_ev se_int) (fun _ _ => rfl))) (so_ev (e_glob T.g_KEY (by rfl)))) (se_one (e_eq (Dk.s D) (so_ev (e_ix (Dk.s D) (so_nm (pv 0)) (so_ev se_int) (fun _ _ => rfl))) (so_ev se_int)))))))
theorem sc_are_shown : FnScope ["thing", "one", "name", "grain"] ["thing"] (defScope (top 26)) := ⟨rfl, rfl, rfl, by decide +kernel, rfl, by decide +kernel, by decide +kernel⟩
theorem ok_are_shown (T : Txt K mg c) : Def P w K mg base c 4 "are_shown" (top 26) ["thing"] f_are_shown := by
  obtain ⟨f, fd, hm, F, hb⟩ := T.d_are_shown
  refine ⟨f, fd, hm, F, hb, ok_def (N := ["thing", "one", "name", "grain"]) (sem := b_are_shown) [true] T.hK F sc_are_shown rfl (by decide) ?_⟩
  rintro X W ⟨cdv, A, outer, s, H, E, rfl⟩ D
  exact (ss_cons (ss_if (SW.st (sw_or (st_not (st_val (e_isa (Dk.s D) .tuple T.b_isinstance (by rfl) T.b_tuple (by rfl) (by decide +kernel) (by decide) (by decide) (so_nm (pv 0))))) (sw_or (st_not (t_lele (Dk.s D) (so_ev se_int) (so_ev (e_len (Dk.s D) T.b_len (by rfl) (so_nm (pv 0)))) (so_ev (e_glob T.g_MOST_SHOWN (by rfl))))) (sw_or1 (st_not (st_val (e_all D T.b_all (by rfl) (so_ev (se_compN (own := [("one", 1)]) D.K D.calm D.nd (pv 0) (by decide) ⟨blkOk_by (by kernel_rfl), (fun s H C cl fp => (sg_name (D.blk s H _ _ fp).nd rfl (by first | exact Or.inl rfl | exact Or.inr rfl) rfl)), (fun s H C cl fp => pts_yes), (fun s H C cl fp => (e_call (D.blk s H _ _ fp) (ok_is_show T) (by decide) (by rfl) (sos_cons (so_nm (pv 1)) sos_nil) rfl))⟩))))))))) (ss_one (ss_ret se_bl)) ss_nil)
    (ss_one (ss_ret (e_call D (ok_are_distinct T) (by decide) (by rfl) (sos_cons (so_ev (e_tuple (Dk.s D) T.b_tuple (by rfl) (so_ev (se_compN (own := [("name", 2), ("grain", 3)]) D.K D.calm D.nd (pv 0) (by decide) ⟨blkOk_by (by kernel_rfl), (fun s H C cl fp => (sg_tup (D.blk s H _ _ fp).K (D.blk s H _ _ fp).calm (sgs_cons (sg_name (D.blk s H _ _ fp).nd rfl (by first | exact Or.inl rfl | exact Or.inr rfl) rfl) (sgs_cons (sg_name (D.blk s H _ _ fp).nd rfl (by first | exact Or.inl rfl | exact Or.inr rfl) rfl) sgs_nil)))), (fun s H C cl fp => pts_yes), (fun s H C cl fp => (se_nm (pv 2)))⟩)))) sos_nil) rfl))))
theorem sc_is_number : FnScope ["thing"] ["thing"] (defScope (top 19)) := ⟨rfl, rfl, rfl, by decide +kernel, rfl, by decide +kernel, by decide +kernel⟩
theorem ok_is_number (T : Txt K mg c) : Def P w K mg base c 2 "is_number" (top 19) ["thing"] f_is_number := by
  obtain ⟨f, fd, hm, F, hb⟩ := T.d_is_number
  refine ⟨f, fd, hm, F, hb, ok_def (N := ["thing"]) (sem := b_is_number) [true] T.hK F sc_is_number rfl (by decide) ?_⟩
  rintro X W ⟨cdv, A, outer, s, H, E, rfl⟩ D
  exact (ss_one (ss_ret (se_and (e_call D (ok_is_whole T) (by decide) (by rfl) (sos_cons (so_nm (pv 0)) sos_nil) rfl) (se_one (e_lelt (Dk.s D) (so_ev se_int) (so_nm (pv 0)) (so_ev (e_glob T.g_MOST (by rfl))))))))
theorem sc_is_cell : FnScope ["thing"] ["thing"] (defScope (top 20)) := ⟨rfl, rfl, rfl, by decide +kernel, rfl, by decide +kernel, by decide +kernel⟩
theorem ok_is_cell (T : Txt K mg c) : Def P w K mg base c 3 "is_cell" (top 20) ["thing"] f_is_cell := by
  obtain ⟨f, fd, hm, F, hb⟩ := T.d_is_cell
  refine ⟨f, fd, hm, F, hb, ok_def (N := ["thing"]) (sem := b_is_cell) [true] T.hK F sc_is_cell rfl (by decide) ?_⟩
  rintro X W ⟨cdv, A, outer, s, H, E, rfl⟩ D
  exact (ss_one (ss_ret (se_or (e_isN (Dk.s D) (so_nm (pv 0))) (se_one (e_call D (ok_is_number T) (by decide) (by rfl) (sos_cons (so_nm (pv 0)) sos_nil) rfl)))))
theorem sc_is_test : FnScope ["thing"] ["thing"] (defScope (top 27)) := ⟨rfl, rfl, rfl, by decide +kernel, rfl, by decide +kernel, by decide +kernel⟩
theorem ok_is_test (T : Txt K mg c) : Def P w K mg base c 4 "is_test" (top 27) ["thing"] f_is_test := by
  obtain ⟨f, fd, hm, F, hb⟩ := T.d_is_test
  refine ⟨f, fd, hm, F, hb, ok_def (N := ["thing"]) (sem := b_is_test) [true] T.hK F sc_is_test rfl (by decide) ?_⟩
  rintro X W ⟨cdv, A, outer, s, H, E, rfl⟩ D
  exact (ss_cons (ss_if (SW.st (sw_or (st_not (st_val (e_isa (Dk.s D) .tuple T.b_isinstance (by rfl) T.b_tuple (by rfl) (by decide +kernel) (by decide) (by decide) (so_nm (pv 0))))) (sw_or (t_lt (Dk.s D) (so_ev (e_len (Dk.s D) T.b_len (by rfl) (so_nm (pv 0)))) (so_ev se_int)) (sw_or (st_not (st_val (e_isa (Dk.s D) .str T.b_isinstance (by rfl) T.b_str (by rfl) (by decide +kernel) (by decide) (by decide) (so_ev (e_ix (Dk.s D) (so_nm (pv 0)) (so_ev se_int) (fun _ _ => rfl)))))) (sw_or1 (st_not (st_val (e_call D (ok_is_name T) (by decide) (by rfl) (sos_cons (so_ev (e_ix (Dk.s D) (so_nm (pv 0)) (so_ev se_int) (fun _ _ => rfl))) sos_nil) rfl)))))))) (ss_one (ss_ret se_bl)) ss_nil)
    (ss_cons (ss_if (t_eq (Dk.s D) (so_ev (e_ix (Dk.s D) (so_nm (pv 0)) (so_ev se_int) (fun _ _ => rfl))) (so_ev (se_str (by decide +kernel)))) (ss_one (ss_ret (e_eq (Dk.s D) (so_ev (e_len (Dk.s D) T.b_len (by rfl) (so_nm (pv 0)))) (so_ev se_int)))) ss_nil)
    (ss_cons (ss_if (t_ne (Dk.s D) (so_ev (e_len (Dk.s D) T.b_len (by rfl) (so_nm (pv 0)))) (so_ev se_int)) (ss_one (ss_ret se_bl)) ss_nil)
    (ss_one (ss_ret (se_if (t_eq (Dk.s D) (so_ev (e_ix (Dk.s D) (so_nm (pv 0)) (so_ev se_int) (fun _ _ => rfl))) (so_ev (se_str (by decide +kernel)))) (e_call D (ok_is_cell T) (by decide) (by rfl) (sos_cons (so_ev (e_ix (Dk.s D) (so_nm (pv 0)) (so_ev se_int) (fun _ _ => rfl))) sos_nil) rfl) (se_and (e_in (Dk.s D) (so_ev (e_ix (Dk.s D) (so_nm (pv 0)) (so_ev se_int) (fun _ _ => rfl))) (so_ev (se_tup (sa_cons (se_str (by decide +kernel)) (sa_cons (se_str (by decide +kernel)) sa_nil)) (hn := (aCons_len (aCons_len aNil_len)))))) (se_one (e_call D (ok_is_number T) (by decide) (by rfl) (sos_cons (so_ev (e_ix (Dk.s D) (so_nm (pv 0)) (so_ev se_int) (fun _ _ => rfl))) sos_nil) rfl)))))))))
theorem sc_are_tests : FnScope ["thing", "one"] ["thing"] (defScope (top 28)) := ⟨rfl, rfl, rfl, by decide +kernel, rfl, by decide +kernel, by decide +kernel⟩
theorem ok_are_tests (T : Txt K mg c) : Def P w K mg base c 5 "are_tests" (top 28) ["thing"] f_are_tests := by
  obtain ⟨f, fd, hm, F, hb⟩ := T.d_are_tests
  refine ⟨f, fd, hm, F, hb, ok_def (N := ["thing", "one"]) (sem := b_are_tests) [true] T.hK F sc_are_tests rfl (by decide) ?_⟩
  rintro X W ⟨cdv, A, outer, s, H, E, rfl⟩ D
  exact (ss_one (ss_ret (se_and (e_isa (Dk.s D) .tuple T.b_isinstance (by rfl) T.b_tuple (by rfl) (by decide +kernel) (by decide) (by decide) (so_nm (pv 0))) (se_one (e_all D T.b_all (by rfl) (so_ev (se_compN (own := [("one", 1)]) D.K D.calm D.nd (pv 0) (by decide) ⟨blkOk_by (by kernel_rfl), (fun s H C cl fp => (sg_name (D.blk s H _ _ fp).nd rfl (by first | exact Or.inl rfl | exact Or.inr rfl) rfl)), (fun s H C cl fp => pts_yes), (fun s H C cl fp => (e_call (D.blk s H _ _ fp) (ok_is_test T) (by decide) (by rfl) (sos_cons (so_nm (pv 1)) sos_nil) rfl))⟩)))))))
theorem sc_Sending___init__ : FnScope ["self", "shown", "tests", "once"] ["self", "shown", "tests", "once"] (defScope (inClass (top 32) 0)) := ⟨rfl, rfl, rfl, by decide +kernel, rfl, by decide +kernel, by decide +kernel⟩
theorem ok_Sending___init__ (T : Txt K mg c) : MDefD P w K mg base c 6 8 "__init__" "Sending.__init__" (inClass (top 32) 0) ["self", "shown", "tests", "once"] [(.tup []), (.bl false)] f_Sending___init__ := by
  obtain ⟨f, fd, a, b, d, dvs, F, hn, hd⟩ := T.m_Sending___init__
  refine ⟨f, fd, ⟨a, b, d, dvs, F, hn, hd⟩, ok_defD (N := ["self", "shown", "tests", "once"]) (sem := b_Sending___init__) [true, true, true, true] T.hK F sc_Sending___init__ rfl (by decide) ?_⟩
  rintro X W ⟨cdv, A, outer, s, H, E, rfl⟩ D
  exact (ss_cons (ss_if (st_not (st_val (e_call D (ok_are_shown T) (by decide) (by rfl) (sos_cons (so_nm (pv 1)) sos_nil) rfl))) (ss_one (let ⟨fI, fdI, iC, tI, FI, bI⟩ := T.i_NoSending; e_raise (fl := ["part"]) D T.x_NoSending T.o_NoSending T.cf_NoSending (by decide) iC tI (ok_init_NoSending T FI) (by decide) bI (by rfl) (sa_cons (se_str (by decide +kernel)) sa_nil) (aCons_len aNil_len) (by decide))) ss_nil)
    (ss_cons (ss_if (st_not (st_val (e_call D (ok_are_tests T) (by decide) (by rfl) (sos_cons (so_nm (pv 2)) sos_nil) rfl))) (ss_one (let ⟨fI, fdI, iC, tI, FI, bI⟩ := T.i_NoSending; e_raise (fl := ["part"]) D T.x_NoSending T.o_NoSending T.cf_NoSending (by decide) iC tI (ok_init_NoSending T FI) (by decide) bI (by rfl) (sa_cons (se_str (by decide +kernel)) sa_nil) (aCons_len aNil_len) (by decide))) ss_nil)
    (ss_cons (ss_if (st_not (st_val (e_isa (Dk.s D) .bool T.b_isinstance (by rfl) T.b_bool (by rfl) (by decide +kernel) (by decide) (by decide) (so_nm (pv 3))))) (ss_one (let ⟨fI, fdI, iC, tI, FI, bI⟩ := T.i_NoSending; e_raise (fl := ["part"]) D T.x_NoSending T.o_NoSending T.cf_NoSending (by decide) iC tI (ok_init_NoSending T FI) (by decide) bI (by rfl) (sa_cons (se_str (by decide +kernel)) sa_nil) (aCons_len aNil_len) (by decide))) ss_nil)
    (ss_cons (ss_fld T.fl_shown (pv 0) (se_nm (pv 1)))
    (ss_cons (ss_fld T.fl_tests (pv 0) (se_nm (pv 2)))
    (ss_one (ss_fld T.fl_once (pv 0) (se_nm (pv 3)))))))))
theorem sc_Sending_names : FnScope ["self", "name", "grain"] ["self"] (defScope (inClass (top 32) 1)) := ⟨rfl, rfl, rfl, by decide +kernel, rfl, by decide +kernel, by decide +kernel⟩
theorem ok_Sending_names (T : Txt K mg c) : MDef P w K mg base c 1 8 "names" "Sending.names" (inClass (top 32) 1) ["self"] f_Sending_names := by
  obtain ⟨f, fd, M⟩ := T.m_Sending_names
  refine ⟨f, fd, M, ok_def (N := ["self", "name", "grain"]) (sem := b_Sending_names) [true] T.hK M.2.2.2.1 sc_Sending_names rfl (by decide) ?_⟩
  rintro X W ⟨cdv, A, outer, s, H, E, rfl⟩ D
  exact (ss_one (ss_ret (e_tuple (Dk.s D) T.b_tuple (by rfl) (so_ev (se_comp (own := [("name", 1), ("grain", 2)]) D.calm D.nd (si_e D.K (e_fld T.fl_shown (so_nm (pv 0)))) ⟨blkOk_by (by kernel_rfl), (fun s H C cl fp => (sg_tup (D.blk s H _ _ fp).K (D.blk s H _ _ fp).calm (sgs_cons (sg_name (D.blk s H _ _ fp).nd rfl (by first | exact Or.inl rfl | exact Or.inr rfl) rfl) (sgs_cons (sg_name (D.blk s H _ _ fp).nd rfl (by first | exact Or.inl rfl | exact Or.inr rfl) rfl) sgs_nil)))), (fun s H C cl fp => pts_yes), (fun s H C cl fp => (se_nm (pv 1)))⟩)))))
theorem sc_Sheet_names : FnScope ["self"] ["self"] (defScope (inClass (top 33) 11)) := ⟨rfl, rfl, rfl, by decide +kernel, rfl, by decide +kernel, by decide +kernel⟩
theorem ok_Sheet_names (T : Txt K mg c) : MDef P w K mg base c 1 9 "names" "Sheet.names" (inClass (top 33) 11) ["self"] f_Sheet_names := by
  obtain ⟨f, fd, M⟩ := T.m_Sheet_names
  refine ⟨f, fd, M, ok_def (N := ["self"]) (sem := b_Sheet_names) [true] T.hK M.2.2.2.1 sc_Sheet_names rfl (by decide) ?_⟩
  rintro X W ⟨cdv, A, outer, s, H, E, rfl⟩ D
  exact (ss_one (ss_ret (e_fld T.fl_heads (so_nm (pv 0)))))
theorem sc__law_well : FnScope ["_law_script", "_law_at", "_law_raw", "_law_deep"] ["_law_script", "_law_at"] (defScope (top 35)) := ⟨rfl, rfl, rfl, by decide +kernel, rfl, by decide +kernel, by decide +kernel⟩
theorem ok__law_well (T : Txt K mg c) : Def P w K mg base c 1 "_law_well" (top 35) ["_law_script", "_law_at"] f__law_well := by
  obtain ⟨f, fd, hm, F, hb⟩ := T.d__law_well
  refine ⟨f, fd, hm, F, hb, ok_def (N := ["_law_script", "_law_at", "_law_raw", "_law_deep"]) (sem := b__law_well) [true, true] T.hK F sc__law_well rfl (by decide) ?_⟩
  rintro X W ⟨cdv, A, outer, s, H, E, rfl⟩ D
  exact (ss_cons (ss_set (i := 2) D.nd rfl (by first | exact Or.inl rfl | exact Or.inr rfl) rfl (se_if (t_lt (Dk.s D) (so_nm (pv 1)) (so_ev (e_len (Dk.s D) T.b_len (by rfl) (so_nm (pv 0))))) (e_ix (Dk.s D) (so_nm (pv 0)) (so_nm (pv 1)) (fun _ _ => rfl)) (w_sub (Dk.s D) (so_ev se_int) (so_nm (pv 1)))))
    (ss_cons (ss_set (i := 3) D.nd rfl (by first | exact Or.inl rfl | exact Or.inr rfl) rfl (e_max2 D T.b_max (by rfl) (so_ev se_int) (so_ev (w_sub (Dk.s D) (so_ev (e_abs (Dk.s D) T.b_abs (by rfl) (so_nm (pv 2)))) (so_ev (w_pow (Dk.s D) (so_ev se_int) (so_ev se_int)))))))
    (ss_one (ss_ret (se_lst (sa_cons (se_nm (pv 3)) (sa_cons (w_add (Dk.s D) (so_ev (w_add (Dk.s D) (so_ev (w_mul (Dk.s D) (so_ev (w_mod (Dk.s D) (so_ev (e_abs (Dk.s D) T.b_abs (by rfl) (so_nm (pv 2)))) (so_ev (w_pow (Dk.s D) (so_ev se_int) (so_ev se_int))))) (so_ev se_int))) (so_ev (e_int (Dk.s D) T.b_int (by rfl) (so_ev (e_lt (Dk.s D) (so_nm (pv 2)) (so_ev se_int))))))) (so_ev (w_mul (Dk.s D) (so_ev se_int) (so_nm (pv 1))))) (sa_cons se_int sa_nil))) (hn := (aCons_len (aCons_len (aCons_len aNil_len)))))))))
theorem sc__law_same : FnScope ["_law_found", "_law_due", "_law_k"] ["_law_found", "_law_due"] (defScope (top 42)) := ⟨rfl, rfl, rfl, by decide +kernel, rfl, by decide +kernel, by decide +kernel⟩
theorem ok__law_same (T : Txt K mg c) : ∀ n, Def P w K mg base c (1 + n) "_law_same" (top 42) ["_law_found", "_law_due"] (f__law_same n)
  | 0 => by
    obtain ⟨f, fd, hm, F, hb⟩ := T.d__law_same
    exact ⟨f, fd, hm, F, hb, fng_bad⟩
  | n + 1 => by
    have IH := ok__law_same T n
    obtain ⟨f, fd, hm, F, hb⟩ := T.d__law_same
    refine ⟨f, fd, hm, F, hb, ok_def (N := ["_law_found", "_law_due", "_law_k"]) (sem := b__law_same (f__law_same n)) [true, true] T.hK F sc__law_same rfl (by decide) ?_⟩
    rintro X W ⟨cdv, A, outer, s, H, E, rfl⟩ D
    exact (ss_cons (ss_if (SW.st (sw_or (t_isN (Dk.s D) (so_nm (pv 1))) (sw_or1 (t_isN (Dk.s D) (so_nm (pv 0)))))) (ss_one (ss_ret (se_and (e_isN (Dk.s D) (so_nm (pv 1))) (se_one (e_isN (Dk.s D) (so_nm (pv 0))))))) ss_nil)
    (ss_cons (ss_if (SW.st (sw_or (st_val (e_isa (Dk.s D) .bool T.b_isinstance (by rfl) T.b_bool (by rfl) (by decide +kernel) (by decide) (by decide) (so_nm (pv 1)))) (sw_or1 (st_val (e_isa (Dk.s D) .bool T.b_isinstance (by rfl) T.b_bool (by rfl) (by decide +kernel) (by decide) (by decide) (so_nm (pv 0))))))) (ss_one (ss_ret (se_and (e_isa (Dk.s D) .bool T.b_isinstance (by rfl) T.b_bool (by rfl) (by decide +kernel) (by decide) (by decide) (so_nm (pv 1))) (se_and (e_isa (Dk.s D) .bool T.b_isinstance (by rfl) T.b_bool (by rfl) (by decide +kernel) (by decide) (by decide) (so_nm (pv 0))) (se_one (e_eq (Dk.s D) (so_nm (pv 1)) (so_nm (pv 0)))))))) ss_nil)
    (ss_cons (ss_if (st_val (e_isa (Dk.s D) .int T.b_isinstance (by rfl) T.b_int (by rfl) (by decide +kernel) (by decide) (by decide) (so_nm (pv 1)))) (ss_one (ss_ret (se_and (e_isa (Dk.s D) .int T.b_isinstance (by rfl) T.b_int (by rfl) (by decide +kernel) (by decide) (by decide) (so_nm (pv 0))) (se_one (e_eq (Dk.s D) (so_nm (pv 1)) (so_nm (pv 0))))))) ss_nil)
    (ss_cons (ss_if (st_val (e_isa (Dk.s D) .str T.b_isinstance (by rfl) T.b_str (by rfl) (by decide +kernel) (by decide) (by decide) (so_nm (pv 1)))) (ss_one (ss_ret (se_and (e_isa (Dk.s D) .str T.b_isinstance (by rfl) T.b_str (by rfl) (by decide +kernel) (by decide) (by decide) (so_nm (pv 0))) (se_one (e_eq (Dk.s D) (so_nm (pv 1)) (so_nm (pv 0))))))) ss_nil)
    (ss_cons (ss_if (SW.st (sw_or (st_not (st_val (e_isa2 (Dk.s D) .list .tuple T.b_isinstance (by rfl) T.b_list (by rfl) (by decide +kernel) T.b_tuple (by rfl) (by decide +kernel) (by decide) (by decide) (by decide) (by decide) (so_nm (pv 0))))) (sw_or1 (t_ne (Dk.s D) (so_ev (e_isa (Dk.s D) .list T.b_isinstance (by rfl) T.b_list (by rfl) (by decide +kernel) (by decide) (by decide) (so_nm (pv 1)))) (so_ev (e_isa (Dk.s D) .list T.b_isinstance (by rfl) T.b_list (by rfl) (by decide +kernel) (by decide) (by decide) (so_nm (pv 0)))))))) (ss_one (ss_ret se_bl)) ss_nil)
    (ss_cons (ss_if (t_ne (Dk.s D) (so_ev (e_len (Dk.s D) T.b_len (by rfl) (so_nm (pv 1)))) (so_ev (e_len (Dk.s D) T.b_len (by rfl) (so_nm (pv 0))))) (ss_one (ss_ret se_bl)) ss_nil)
    (ss_one (ss_ret (e_eq (Dk.s D) (so_ev (se_comp (own := [("_law_k", 2)]) D.calm D.nd (si_range1 (by rfl) T.b_range (e_len (Dk.s D) T.b_len (by rfl) (so_nm (pv 1)))) ⟨blkOk_by (by kernel_rfl), (fun s H C cl fp => (sg_name (D.blk s H _ _ fp).nd rfl (by first | exact Or.inl rfl | exact Or.inr rfl) rfl)), (fun s H C cl fp => (pts_st (st_not (st_val (e_call (D.blk s H _ _ fp) IH (Nat.le_refl _) (by rfl) (sos_cons (so_ev (e_ix (Dk.s (D.blk s H _ _ fp)) (so_nm (pv 0)) (so_nm (pv 2)) (fun _ _ => rfl))) (sos_cons (so_ev (e_ix (Dk.s (D.blk s H _ _ fp)) (so_nm (pv 1)) (so_nm (pv 2)) (fun _ _ => rfl))) sos_nil)) rfl))))), (fun s H C cl fp => (se_nm (pv 2)))⟩)) (so_ev (se_lst sa_nil (hn := aNil_len))))))))))))
theorem sc__law_draw : FnScope ["_law_well_here", "_law_below", "_law_digit", "_law_mixed"] ["_law_well_here", "_law_below"] (defScope (top 36)) := ⟨rfl, rfl, rfl, by decide +kernel, rfl, by decide +kernel, by decide +kernel⟩
theorem ok__law_draw (T : Txt K mg c) : Def P w K mg base c 1 "_law_draw" (top 36) ["_law_well_here", "_law_below"] f__law_draw := by
  obtain ⟨f, fd, hm, F, hb⟩ := T.d__law_draw
  refine ⟨f, fd, hm, F, hb, ok_def (N := ["_law_well_here", "_law_below", "_law_digit", "_law_mixed"]) (sem := b__law_draw) [true, true] T.hK F sc__law_draw rfl (by decide) ?_⟩
  rintro X W ⟨cdv, A, outer, s, H, E, rfl⟩ D
  exact (ss_cons (ss_if (t_gt (Dk.s D) (so_ev (e_ix (Dk.s D) (so_nm (pv 0)) (so_ev se_int) (fun _ _ => rfl))) (so_ev se_int)) (ss_cons (ss_set (i := 2) D.nd rfl (by first | exact Or.inl rfl | exact Or.inr rfl) rfl (w_mod (Dk.s D) (so_ev (e_int (Dk.s D) T.b_int (by rfl) (so_ev (e_ix (Dk.s D) (so_nm (pv 0)) (so_ev se_int) (fun _ _ => rfl))))) (so_nm (pv 1))))
    (ss_cons (ss_putL (pv 0) (w_div (Dk.s D) (so_ev (e_ix (Dk.s D) (so_nm (pv 0)) (so_ev se_int) (fun _ _ => rfl))) (so_nm (pv 1))) se_int)
    (ss_one (ss_ret (se_mv (pv 2)))))) ss_nil)
    (ss_cons (ss_putL (pv 0) (w_add (Dk.s D) (so_ev (e_ix (Dk.s D) (so_nm (pv 0)) (so_ev se_int) (fun _ _ => rfl))) (so_ev se_int)) se_int)
    (ss_cons (ss_set (i := 3) D.nd rfl (by first | exact Or.inl rfl | exact Or.inr rfl) rfl (w_mod (Dk.s D) (so_ev (w_pow (Dk.s D) (so_ev (e_int (Dk.s D) T.b_int (by rfl) (so_ev (w_add (Dk.s D) (so_ev (e_ix (Dk.s D) (so_nm (pv 0)) (so_ev se_int) (fun _ _ => rfl))) (so_ev (w_mul (Dk.s D) (so_ev se_int) (so_ev (e_ix (Dk.s D) (so_nm (pv 0)) (so_ev se_int) (fun _ _ => rfl))))))))) (so_ev se_int))) (so_ev se_int)))
    (ss_cons (ss_set (i := 3) D.nd rfl (by first | exact Or.inl rfl | exact Or.inr rfl) rfl (w_mod (Dk.s D) (so_ev (w_pow (Dk.s D) (so_ev (e_int (Dk.s D) T.b_int (by rfl) (so_ev (w_add (Dk.s D) (so_nm (pv 3)) (so_ev (w_mul (Dk.s D) (so_ev se_int) (so_ev (e_ix (Dk.s D) (so_nm (pv 0)) (so_ev se_int) (fun _ _ => rfl))))))))) (so_ev se_int))) (so_ev se_int)))
    (ss_one (ss_ret (w_mod (Dk.s D) (so_ev (w_div (Dk.s D) (so_nm (pv 3)) (so_ev se_int))) (so_nm (pv 1)))))))))
theorem sc__law_names : FnScope ["_law_well_here", "_law_many", "_law_letters", "_law_found", "_law_way", "_law_size", "_law_stem", "_law_spot", "_law_first", "_law_k", "_law_word", "_law_long", "_law_spare", "_law_turn", "_law_letter", "_law_one"] ["_law_well_here", "_law_many"] (defScope (top 37)) := ⟨rfl, rfl, rfl, by decide +kernel, rfl, by decide +kernel, by decide +kernel⟩
theorem ok__law_names (T : Txt K mg c) : Def P w K mg base c 2 "_law_names" (top 37) ["_law_well_here", "_law_many"] f__law_names := by
  obtain ⟨f, fd, hm, F, hb⟩ := T.d__law_names
  refine ⟨f, fd, hm, F, hb, ok_def (N := ["_law_well_here", "_law_many", "_law_letters", "_law_found", "_law_way", "_law_size", "_law_stem", "_law_spot", "_law_first", "_law_k", "_law_word", "_law_long", "_law_spare", "_law_turn", "_law_letter", "_law_one"]) (sem := b__law_names) [true, true] T.hK F sc__law_names rfl (by decide) ?_⟩
  rintro X W ⟨cdv, A, outer, s, H, E, rfl⟩ D
  exact (ss_cons (ss_setT (se_tup (sa_cons (se_str (by decide +kernel)) (sa_cons (se_lst sa_nil (hn := aNil_len)) sa_nil)) (hn := (aCons_len (aCons_len aNil_len)))) (sg_tup D.K D.calm (sgs_cons (sg_name D.nd rfl (by first | exact Or.inl rfl | exact Or.inr rfl) rfl) (sgs_cons (sg_name D.nd rfl (by first | exact Or.inl rfl | exact Or.inr rfl) rfl) sgs_nil))))
    (ss_cons (ss_par2 D.calm D.nd rfl rfl (by decide) rfl rfl rfl rfl (sa_cons (e_call D (ok__law_draw T) (by decide) (by rfl) (sos_cons (so_nm (pv 0)) (sos_cons (so_ev se_int) sos_nil)) rfl) (sa_cons (w_add (Dk.s D) (so_ev se_int) (so_ev (e_call D (ok__law_draw T) (by decide) (by rfl) (sos_cons (so_nm (pv 0)) (sos_cons (so_ev se_int) sos_nil)) rfl))) sa_nil)) (by first | rfl | kernel_rfl))
    (ss_cons (ss_setC (j := 6) (own := [("_law_k", 9)]) D.calm D.nd rfl rfl rfl (sw_true rfl rfl rfl (by decide +kernel)) (si_range1 (by rfl) T.b_range se_int) ⟨blkOk_by (by kernel_rfl), (fun s H C cl fp => (sg_name (D.blk s H _ _ fp).nd rfl (by first | exact Or.inl rfl | exact Or.inr rfl) rfl)), (fun s H C cl fp => pts_yes), (fun s H C cl fp => (e_ix (Dk.s (D.blk s H _ _ fp)) (so_nm (pv 2)) (so_ev (e_call (D.blk s H _ _ fp) (ok__law_draw T) (by decide) (by rfl) (sos_cons (so_nm (pv 0)) (sos_cons (so_ev se_int) sos_nil)) rfl)) (fun _ _ => rfl)))⟩)
    (ss_cons (ss_par2 D.calm D.nd rfl rfl (by decide) rfl rfl rfl rfl (sa_cons (e_call D (ok__law_draw T) (by decide) (by rfl) (sos_cons (so_nm (pv 0)) (sos_cons (so_nm (pv 5)) sos_nil)) rfl) (sa_cons (e_call D (ok__law_draw T) (by decide) (by rfl) (sos_cons (so_nm (pv 0)) (sos_cons (so_ev se_int) sos_nil)) rfl) sa_nil)) (by first | rfl | kernel_rfl))
    (ss_cons (ss_for D (si_range1 (by rfl) T.b_range (se_nm (pv 1))) (sg_name D.nd rfl (by first | exact Or.inl rfl | exact Or.inr rfl) rfl) (ss_cons (ss_set (i := 10) D.nd rfl (by first | exact Or.inl rfl | exact Or.inr rfl) rfl (w_add (Dk.s D) (so_ev (e_sl (Dk.s D) (so_nm (pv 6)) sb_none (sb_some (se_nm (pv 7))))) (so_ev (se_lst (sa_cons (e_ix (Dk.s D) (so_nm (pv 2)) (so_ev (w_mod (Dk.s D) (so_ev (e_int (Dk.s D) T.b_int (by rfl) (so_ev (w_add (Dk.s D) (so_nm (pv 8)) (so_nm (pv 9)))))) (so_ev se_int))) (fun _ _ => rfl)) sa_nil) (hn := (aCons_len aNil_len))))))
    (ss_cons (ss_set (i := 10) D.nd rfl (by first | exact Or.inl rfl | exact Or.inr rfl) rfl (w_add (Dk.s D) (so_nm (pv 10)) (so_ev (e_sl (Dk.s D) (so_nm (pv 6)) (sb_some (w_add (Dk.s D) (so_nm (pv 7)) (so_ev se_int))) (sb_some (se_nm (pv 5)))))))
    (ss_cons (ss_if (t_eq (Dk.s D) (so_nm (pv 4)) (so_ev se_int)) (ss_one (ss_set (i := 10) D.nd rfl (by first | exact Or.inl rfl | exact Or.inr rfl) rfl (e_sl (Dk.s D) (so_nm (pv 6)) sb_none (sb_some (w_add (Dk.s D) (so_ev se_int) (so_ev (w_mod (Dk.s D) (so_ev (e_int (Dk.s D) T.b_int (by rfl) (so_ev (w_add (Dk.s D) (so_nm (pv 7)) (so_nm (pv 9)))))) (so_ev se_int)))))))) ss_nil)
    (ss_cons (ss_if (t_eq (Dk.s D) (so_nm (pv 4)) (so_ev se_int)) (ss_cons (ss_set (i := 11) D.nd rfl (by first | exact Or.inl rfl | exact Or.inr rfl) rfl (w_add (Dk.s D) (so_ev se_int) (so_ev (e_call D (ok__law_draw T) (by decide) (by rfl) (sos_cons (so_nm (pv 0)) (sos_cons (so_ev se_int) sos_nil)) rfl))))
    (ss_one (ss_setC (j := 10) (own := [("_law_turn", 13)]) D.calm D.nd rfl rfl rfl (sw_true rfl rfl rfl (by decide +kernel)) (si_range1 (by rfl) T.b_range (se_nm (pv 11))) ⟨blkOk_by (by kernel_rfl), (fun s H C cl fp => (sg_name (D.blk s H _ _ fp).nd rfl (by first | exact Or.inl rfl | exact Or.inr rfl) rfl)), (fun s H C cl fp => pts_yes), (fun s H C cl fp => (e_ix (Dk.s (D.blk s H _ _ fp)) (so_nm (pv 2)) (so_ev (e_call (D.blk s H _ _ fp) (ok__law_draw T) (by decide) (by rfl) (sos_cons (so_nm (pv 0)) (sos_cons (so_ev se_int) sos_nil)) rfl)) (fun _ _ => rfl)))⟩))) ss_nil)
    (ss_cons (ss_set (i := 12) D.nd rfl (by first | exact Or.inl rfl | exact Or.inr rfl) rfl (w_add (Dk.s D) (so_ev (se_lst (sa_cons (se_join D.K (by decide +kernel) (so_nm (pv 10))) sa_nil) (hn := (aCons_len aNil_len)))) (so_ev (se_comp (own := [("_law_letter", 14)]) D.calm D.nd (si_str (se_str (by decide +kernel))) ⟨blkOk_by (by kernel_rfl), (fun s H C cl fp => (sg_name (D.blk s H _ _ fp).nd rfl (by first | exact Or.inl rfl | exact Or.inr rfl) rfl)), (fun s H C cl fp => pts_yes), (fun s H C cl fp => (w_mul (Dk.s (D.blk s H _ _ fp)) (so_nm (pv 14)) (so_ev se_int)))⟩))))
    (ss_cons (ss_setCN (j := 12) (own := [("_law_one", 15)]) D.K D.calm D.nd rfl rfl rfl (sw_true rfl rfl rfl (by decide +kernel)) (pv 12) (by decide) ⟨blkOk_by (by kernel_rfl), (fun s H C cl fp => (sg_name (D.blk s H _ _ fp).nd rfl (by first | exact Or.inl rfl | exact Or.inr rfl) rfl)), (fun s H C cl fp => (pts_st (SW.st (sw_and (t_ne (Dk.s (D.blk s H _ _ fp)) (so_nm (pv 15)) (so_ev (se_str (by decide +kernel)))) (sw_and1 (t_ni (Dk.s (D.blk s H _ _ fp)) (so_nm (pv 15)) (so_nm (pv 3)))))))), (fun s H C cl fp => (se_nm (pv 15)))⟩)
    (ss_one (ss_app D.K (pv 3) (e_ix (Dk.s D) (so_nm (pv 12)) (so_ev se_int) (fun _ _ => rfl)))))))))))
    (ss_one (ss_ret (e_tuple (Dk.s D) T.b_tuple (by rfl) (so_nm (pv 3))))))))))
theorem sc__law_number : FnScope ["_law_well_here", "_law_way", "_law_small"] ["_law_well_here"] (defScope (top 38)) := ⟨rfl, rfl, rfl, by decide +kernel, rfl, by decide +kernel, by decide +kernel⟩
theorem ok__law_number (T : Txt K mg c) : Def P w K mg base c 2 "_law_number" (top 38) ["_law_well_here"] f__law_number := by
  obtain ⟨f, fd, hm, F, hb⟩ := T.d__law_number
  refine ⟨f, fd, hm, F, hb, ok_def (N := ["_law_well_here", "_law_way", "_law_small"]) (sem := b__law_number) [true] T.hK F sc__law_number rfl (by decide) ?_⟩
  rintro X W ⟨cdv, A, outer, s, H, E, rfl⟩ D
  exact (ss_cons (ss_par2 D.calm D.nd rfl rfl (by decide) rfl rfl rfl rfl (sa_cons (e_call D (ok__law_draw T) (by decide) (by rfl) (sos_cons (so_nm (pv 0)) (sos_cons (so_ev se_int) sos_nil)) rfl) (sa_cons (e_call D (ok__law_draw T) (by decide) (by rfl) (sos_cons (so_nm (pv 0)) (sos_cons (so_ev se_int) sos_nil)) rfl) sa_nil)) (by first | rfl | kernel_rfl))
    (ss_cons (ss_if (t_lt (Dk.s D) (so_nm (pv 1)) (so_ev se_int)) (ss_one (ss_ret (se_mv (pv 2)))) ss_nil)
    (ss_cons (ss_if (t_eq (Dk.s D) (so_nm (pv 1)) (so_ev se_int)) (ss_one (ss_ret (w_sub (Dk.s D) (so_ev (w_sub (Dk.s D) (so_ev (w_pow (Dk.s D) (so_ev se_int) (so_ev se_int))) (so_ev se_int))) (so_nm (pv 2))))) ss_nil)
    (ss_cons (ss_if (t_eq (Dk.s D) (so_nm (pv 1)) (so_ev se_int)) (ss_one (ss_ret (e_call D (ok__law_draw T) (by decide) (by rfl) (sos_cons (so_nm (pv 0)) (sos_cons (so_ev (w_pow (Dk.s D) (so_ev se_int) (so_ev se_int))) sos_nil)) rfl))) ss_nil)
    (ss_one (ss_ret (w_add (Dk.s D) (so_ev (e_intS (Dk.s D) T.b_int (by rfl) (so_ev (w_add (Dk.s D) (so_ev (se_str (by decide +kernel))) (so_ev (w_mul (Dk.s D) (so_ev (se_str (by decide +kernel))) (so_ev (e_call D (ok__law_draw T) (by decide) (by rfl) (sos_cons (so_nm (pv 0)) (sos_cons (so_ev se_int) sos_nil)) rfl)))))))) (so_nm (pv 2)))))))))
theorem sc__law_pool : FnScope ["_law_well_here", "_law_found", "_law_k", "_law_number_here"] ["_law_well_here"] (defScope (top 39)) := ⟨rfl, rfl, rfl, by decide +kernel, rfl, by decide +kernel, by decide +kernel⟩
theorem ok__law_pool (T : Txt K mg c) : Def P w K mg base c 3 "_law_pool" (top 39) ["_law_well_here"] f__law_pool := by
  obtain ⟨f, fd, hm, F, hb⟩ := T.d__law_pool
  refine ⟨f, fd, hm, F, hb, ok_def (N := ["_law_well_here", "_law_found", "_law_k", "_law_number_here"]) (sem := b__law_pool) [true] T.hK F sc__law_pool rfl (by decide) ?_⟩
  rintro X W ⟨cdv, A, outer, s, H, E, rfl⟩ D
  exact (ss_cons (ss_set (i := 1) D.nd rfl (by first | exact Or.inl rfl | exact Or.inr rfl) rfl (se_lst sa_nil (hn := aNil_len)))
    (ss_cons (ss_for D (si_range1 (by rfl) T.b_range se_int) (sg_name D.nd rfl (by first | exact Or.inl rfl | exact Or.inr rfl) rfl) (ss_cons (ss_set (i := 3) D.nd rfl (by first | exact Or.inl rfl | exact Or.inr rfl) rfl (e_call D (ok__law_number T) (by decide) (by rfl) (sos_cons (so_nm (pv 0)) sos_nil) rfl))
    (ss_one (ss_set (i := 1) D.nd rfl (by first | exact Or.inl rfl | exact Or.inr rfl) rfl (w_add (Dk.s D) (so_nm (pv 1)) (so_ev (se_lst (sa_cons (e_max2 D T.b_max (by rfl) (so_ev se_int) (so_ev (w_sub (Dk.s D) (so_nm (pv 3)) (so_ev se_int)))) (sa_cons (se_nm (pv 3)) (sa_cons (e_min2 D T.b_min (by rfl) (so_ev (w_sub (Dk.s D) (so_ev (w_pow (Dk.s D) (so_ev se_int) (so_ev se_int))) (so_ev se_int))) (so_ev (w_add (Dk.s D) (so_nm (pv 3)) (so_ev se_int)))) sa_nil))) (hn := (aCons_len (aCons_len (aCons_len aNil_len)))))))))))
    (ss_one (ss_ret (se_mv (pv 1))))))
theorem sc__law_tests : FnScope ["_law_well_here", "_law_columns", "_law_pool_here", "_law_found", "_law_k", "_law_head", "_law_number_here", "_law_some", "_law_one"] ["_law_well_here", "_law_columns", "_law_pool_here"] (defScope (top 40)) := ⟨rfl, rfl, rfl, by decide +kernel, rfl, by decide +kernel, by decide +kernel⟩
theorem ok__law_tests (T : Txt K mg c) : Def P w K mg base c 2 "_law_tests" (top 40) ["_law_well_here", "_law_columns", "_law_pool_here"] f__law_tests := by
  obtain ⟨f, fd, hm, F, hb⟩ := T.d__law_tests
  refine ⟨f, fd, hm, F, hb, ok_def (N := ["_law_well_here", "_law_columns", "_law_pool_here", "_law_found", "_law_k", "_law_head", "_law_number_here", "_law_some", "_law_one"]) (sem := b__law_tests) [true, true, true] T.hK F sc__law_tests rfl (by decide) ?_⟩
  rintro X W ⟨cdv, A, outer, s, H, E, rfl⟩ D
  exact (ss_cons (ss_set (i := 3) D.nd rfl (by first | exact Or.inl rfl | exact Or.inr rfl) rfl (se_lst sa_nil (hn := aNil_len)))
    (ss_cons (ss_for D (si_range1 (by rfl) T.b_range (e_ix (Dk.s D) (so_ev (se_lst (sa_cons se_int (sa_cons se_int (sa_cons se_int (sa_cons se_int (sa_cons (e_call D (ok__law_draw T) (by decide) (by rfl) (sos_cons (so_nm (pv 0)) (sos_cons (so_ev se_int) sos_nil)) rfl) sa_nil))))) (hn := (aCons_len (aCons_len (aCons_len (aCons_len (aCons_len aNil_len)))))))) (so_ev (e_call D (ok__law_draw T) (by decide) (by rfl) (sos_cons (so_nm (pv 0)) (sos_cons (so_ev se_int) sos_nil)) rfl)) (fun _ _ => rfl))) (sg_name D.nd rfl (by first | exact Or.inl rfl | exact Or.inr rfl) rfl) (ss_cons (ss_setT (se_tup (sa_cons (e_ix (Dk.s D) (so_nm (pv 1)) (so_ev (e_call D (ok__law_draw T) (by decide) (by rfl) (sos_cons (so_nm (pv 0)) (sos_cons (so_ev (e_len (Dk.s D) T.b_len (by rfl) (so_nm (pv 1)))) sos_nil)) rfl)) (fun _ _ => rfl)) (sa_cons (e_ix (Dk.s D) (so_nm (pv 2)) (so_ev (e_call D (ok__law_draw T) (by decide) (by rfl) (sos_cons (so_nm (pv 0)) (sos_cons (so_ev (e_len (Dk.s D) T.b_len (by rfl) (so_nm (pv 2)))) sos_nil)) rfl)) (fun _ _ => rfl)) sa_nil)) (hn := (aCons_len (aCons_len aNil_len)))) (sg_tup D.K D.calm (sgs_cons (sg_name D.nd rfl (by first | exact Or.inl rfl | exact Or.inr rfl) rfl) (sgs_cons (sg_name D.nd rfl (by first | exact Or.inl rfl | exact Or.inr rfl) rfl) sgs_nil))))
    (ss_cons (ss_set (i := 7) D.nd rfl (by first | exact Or.inl rfl | exact Or.inr rfl) rfl (se_lst (sa_cons (se_tup (sa_cons (se_str (by decide +kernel)) (sa_cons (se_nm (pv 5)) (sa_cons (se_nm (pv 6)) sa_nil))) (hn := (aCons_len (aCons_len (aCons_len aNil_len))))) (sa_cons (se_tup (sa_cons (se_str (by decide +kernel)) (sa_cons (se_nm (pv 5)) (sa_cons (se_nm (pv 6)) sa_nil))) (hn := (aCons_len (aCons_len (aCons_len aNil_len))))) (sa_cons (se_tup (sa_cons (se_str (by decide +kernel)) (sa_cons (se_nm (pv 5)) (sa_cons (se_nm (pv 6)) sa_nil))) (hn := (aCons_len (aCons_len (aCons_len aNil_len))))) sa_nil))) (hn := (aCons_len (aCons_len (aCons_len aNil_len))))))
    (ss_cons (ss_set (i := 7) D.nd rfl (by first | exact Or.inl rfl | exact Or.inr rfl) rfl (w_add (Dk.s D) (so_nm (pv 7)) (so_ev (se_lst (sa_cons (se_tup (sa_cons (se_str (by decide +kernel)) (sa_cons (se_nm (pv 5)) sa_nil)) (hn := (aCons_len (aCons_len aNil_len)))) (sa_cons (se_tup (sa_cons (se_str (by decide +kernel)) (sa_cons (se_nm (pv 5)) (sa_cons se_non sa_nil))) (hn := (aCons_len (aCons_len (aCons_len aNil_len))))) (sa_cons (se_tup (sa_cons (se_str (by decide +kernel)) (sa_cons (se_nm (pv 5)) (sa_cons se_int sa_nil))) (hn := (aCons_len (aCons_len (aCons_len aNil_len))))) sa_nil))) (hn := (aCons_len (aCons_len (aCons_len aNil_len))))))))
    (ss_one (ss_if (t_lt (Dk.s D) (so_ev (e_len (Dk.s D) T.b_len (by rfl) (so_ev (se_compN (own := [("_law_one", 8)]) D.K D.calm D.nd (pv 3) (by decide) ⟨blkOk_by (by kernel_rfl), (fun s H C cl fp => (sg_name (D.blk s H _ _ fp).nd rfl (by first | exact Or.inl rfl | exact Or.inr rfl) rfl)), (fun s H C cl fp => (pts_st (t_eq (Dk.s (D.blk s H _ _ fp)) (so_ev (e_ix (Dk.s (D.blk s H _ _ fp)) (so_nm (pv 8)) (so_ev se_int) (fun _ _ => rfl))) (so_nm (pv 5))))), (fun s H C cl fp => (se_nm (pv 8)))⟩)))) (so_ev se_int)) (ss_one (ss_app D.K (pv 3) (e_ix (Dk.s D) (so_nm (pv 7)) (so_ev (e_call D (ok__law_draw T) (by decide) (by rfl) (sos_cons (so_nm (pv 0)) (sos_cons (so_ev se_int) sos_nil)) rfl)) (fun _ _ => rfl)))) ss_nil))))))
    (ss_one (ss_ret (e_tuple (Dk.s D) T.b_tuple (by rfl) (so_nm (pv 3)))))))
theorem sc__law_shown : FnScope ["_law_well_here", "_law_columns", "_law_left", "_law_found", "_law_k", "_law_head", "_law_grain", "_law_one"] ["_law_well_here", "_law_columns"] (defScope (top 41)) := ⟨rfl, rfl, rfl, by decide +kernel, rfl, by decide +kernel, by decide +kernel⟩
theorem ok__law_shown (T : Txt K mg c) : Def P w K mg base c 2 "_law_shown" (top 41) ["_law_well_here", "_law_columns"] f__law_shown := by
  obtain ⟨f, fd, hm, F, hb⟩ := T.d__law_shown
  refine ⟨f, fd, hm, F, hb, ok_def (N := ["_law_well_here", "_law_columns", "_law_left", "_law_found", "_law_k", "_law_head", "_law_grain", "_law_one"]) (sem := b__law_shown) [true, true] T.hK F sc__law_shown rfl (by decide) ?_⟩
  rintro X W ⟨cdv, A, outer, s, H, E, rfl⟩ D
  exact (ss_cons (ss_par2 D.calm D.nd rfl rfl (by decide) rfl rfl rfl rfl (sa_cons (w_add (Dk.s D) (so_ev (e_list (Dk.s D) T.b_list (by rfl) (so_nm (pv 1)))) (so_ev (se_lst (sa_cons (se_str (by decide +kernel)) sa_nil) (hn := (aCons_len aNil_len))))) (sa_cons (se_lst sa_nil (hn := aNil_len)) sa_nil)) (by first | rfl | kernel_rfl))
    (ss_cons (ss_for D (si_range1 (by rfl) T.b_range (w_add (Dk.s D) (so_ev se_int) (so_ev (e_call D (ok__law_draw T) (by decide) (by rfl) (sos_cons (so_nm (pv 0)) (sos_cons (so_ev (w_add (Dk.s D) (so_ev (e_len (Dk.s D) T.b_len (by rfl) (so_nm (pv 1)))) (so_ev se_int))) sos_nil)) rfl)))) (sg_name D.nd rfl (by first | exact Or.inl rfl | exact Or.inr rfl) rfl) (ss_cons (ss_set (i := 5) D.nd rfl (by first | exact Or.inl rfl | exact Or.inr rfl) rfl (e_ix (Dk.s D) (so_nm (pv 2)) (so_ev (e_call D (ok__law_draw T) (by decide) (by rfl) (sos_cons (so_nm (pv 0)) (sos_cons (so_ev (e_len (Dk.s D) T.b_len (by rfl) (so_nm (pv 2)))) sos_nil)) rfl)) (fun _ _ => rfl)))
    (ss_cons (ss_setCN (j := 2) (own := [("_law_one", 7)]) D.K D.calm D.nd rfl rfl rfl (sw_true rfl rfl rfl (by decide +kernel)) (pv 2) (by decide) ⟨blkOk_by (by kernel_rfl), (fun s H C cl fp => (sg_name (D.blk s H _ _ fp).nd rfl (by first | exact Or.inl rfl | exact Or.inr rfl) rfl)), (fun s H C cl fp => (pts_st (t_ne (Dk.s (D.blk s H _ _ fp)) (so_nm (pv 7)) (so_nm (pv 5))))), (fun s H C cl fp => (se_nm (pv 7)))⟩)
    (ss_cons (ss_set (i := 6) D.nd rfl (by first | exact Or.inl rfl | exact Or.inr rfl) rfl (e_ix (Dk.s D) (so_ev (se_lst (sa_cons se_int (sa_cons se_int (sa_cons se_int (sa_cons se_int (sa_cons (w_pow (Dk.s D) (so_ev se_int) (so_ev se_int)) (sa_cons (w_add (Dk.s D) (so_ev se_int) (so_ev (e_call D (ok__law_draw T) (by decide) (by rfl) (sos_cons (so_nm (pv 0)) (sos_cons (so_ev (w_pow (Dk.s D) (so_ev se_int) (so_ev se_int))) sos_nil)) rfl))) sa_nil)))))) (hn := (aCons_len (aCons_len (aCons_len (aCons_len (aCons_len (aCons_len aNil_len))))))))) (so_ev (e_call D (ok__law_draw T) (by decide) (by rfl) (sos_cons (so_nm (pv 0)) (sos_cons (so_ev se_int) sos_nil)) rfl)) (fun _ _ => rfl)))
    (ss_one (ss_app D.K (pv 3) (se_tup (sa_cons (se_nm (pv 5)) (sa_cons (se_if (t_eq (Dk.s D) (so_nm (pv 5)) (so_ev (se_str (by decide +kernel)))) se_int (se_nm (pv 6))) sa_nil)) (hn := (aCons_len (aCons_len aNil_len))))))))))
    (ss_one (ss_ret (e_tuple (Dk.s D) T.b_tuple (by rfl) (so_nm (pv 3)))))))
theorem sc__law_wrong_shown : FnScope ["_law_well_here", "_law_good", "_law_k", "_law_way", "_law_head", "_law_grain", "_law_odd", "_law_bad", "_law_some", "_law_eight", "_law_twice", "_law_letter"] ["_law_well_here", "_law_good"] (defScope (top 43)) := ⟨rfl, rfl, rfl, by decide +kernel, rfl, by decide +kernel, by decide +kernel⟩
theorem ok__law_wrong_shown (T : Txt K mg c) : Def P w K mg base c 2 "_law_wrong_shown" (top 43) ["_law_well_here", "_law_good"] f__law_wrong_shown := by
  obtain ⟨f, fd, hm, F, hb⟩ := T.d__law_wrong_shown
  refine ⟨f, fd, hm, F, hb, ok_def (N := ["_law_well_here", "_law_good", "_law_k", "_law_way", "_law_head", "_law_grain", "_law_odd", "_law_bad", "_law_some", "_law_eight", "_law_twice", "_law_letter"]) (sem := b__law_wrong_shown) [true, true] T.hK F sc__law_wrong_shown rfl (by decide) ?_⟩
  rintro X W ⟨cdv, A, outer, s, H, E, rfl⟩ D
  exact (ss_cons (ss_par2 D.calm D.nd rfl rfl (by decide) rfl rfl rfl rfl (sa_cons (e_call D (ok__law_draw T) (by decide) (by rfl) (sos_cons (so_nm (pv 0)) (sos_cons (so_ev (e_len (Dk.s D) T.b_len (by rfl) (so_nm (pv 1)))) sos_nil)) rfl) (sa_cons (e_call D (ok__law_draw T) (by decide) (by rfl) (sos_cons (so_nm (pv 0)) (sos_cons (so_ev se_int) sos_nil)) rfl) sa_nil)) (by first | rfl | kernel_rfl))
    (ss_cons (ss_setT (e_ix (Dk.s D) (so_nm (pv 1)) (so_nm (pv 2)) (fun _ _ => rfl)) (sg_tup D.K D.calm (sgs_cons (sg_name D.nd rfl (by first | exact Or.inl rfl | exact Or.inr rfl) rfl) (sgs_cons (sg_name D.nd rfl (by first | exact Or.inl rfl | exact Or.inr rfl) rfl) sgs_nil))))
    (ss_cons (ss_set (i := 6) D.nd rfl (by first | exact Or.inl rfl | exact Or.inr rfl) rfl (e_ix (Dk.s D) (so_ev (se_frz (se_lst (sa_cons se_non (sa_cons se_bl (sa_cons se_int (sa_cons (w_neg (Dk.s D) (so_ev se_int)) (sa_cons (se_str (by decide +kernel)) (sa_cons (se_str (by decide +kernel)) (sa_cons (se_frz (se_lst sa_nil (hn := aNil_len))) (sa_cons (se_tup sa_nil (hn := aNil_len)) (sa_cons (se_frz se_dct0) (sa_cons (w_add (Dk.s D) (so_ev (w_pow (Dk.s D) (so_ev se_int) (so_ev se_int))) (so_ev se_int)) sa_nil)))))))))) (hn := (aCons_len (aCons_len (aCons_len (aCons_len (aCons_len (aCons_len (aCons_len (aCons_len (aCons_len (aCons_len aNil_len)))))))))))))) (so_ev (e_call D (ok__law_draw T) (by decide) (by rfl) (sos_cons (so_nm (pv 0)) (sos_cons (so_ev se_int) sos_nil)) rfl)) (fun _ _ => rfl)))
    (ss_cons (ss_set (i := 7) D.nd rfl (by first | exact Or.inl rfl | exact Or.inr rfl) rfl (e_ix (Dk.s D) (so_ev (se_frz (se_lst (sa_cons (se_str (by decide +kernel)) (sa_cons (se_str (by decide +kernel)) (sa_cons (se_str (by decide +kernel)) (sa_cons (se_str (by decide +kernel)) (sa_cons (se_str (by decide +kernel)) (sa_cons se_non (sa_cons se_int (sa_cons se_bl (sa_cons (se_tup (sa_cons (se_str (by decide +kernel)) sa_nil) (hn := (aCons_len aNil_len))) (sa_cons (se_frz (se_lst (sa_cons (se_nm (pv 4)) sa_nil) (hn := (aCons_len aNil_len)))) sa_nil)))))))))) (hn := (aCons_len (aCons_len (aCons_len (aCons_len (aCons_len (aCons_len (aCons_len (aCons_len (aCons_len (aCons_len aNil_len)))))))))))))) (so_ev (e_call D (ok__law_draw T) (by decide) (by rfl) (sos_cons (so_nm (pv 0)) (sos_cons (so_ev se_int) sos_nil)) rfl)) (fun _ _ => rfl)))
    (ss_cons (ss_set (i := 8) D.nd rfl (by first | exact Or.inl rfl | exact Or.inr rfl) rfl (se_lst (sa_cons (se_tup (sa_cons (se_nm (pv 4)) (sa_cons (se_nm (pv 6)) sa_nil)) (hn := (aCons_len (aCons_len aNil_len)))) (sa_cons (se_tup (sa_cons (se_nm (pv 7)) (sa_cons (se_nm (pv 5)) sa_nil)) (hn := (aCons_len (aCons_len aNil_len)))) (sa_cons (se_tup (sa_cons (se_nm (pv 4)) sa_nil) (hn := (aCons_len aNil_len))) (sa_cons (se_tup (sa_cons (se_nm (pv 4)) (sa_cons (se_nm (pv 5)) (sa_cons se_int sa_nil))) (hn := (aCons_len (aCons_len (aCons_len aNil_len))))) (sa_cons (se_frz (se_lst (sa_cons (se_nm (pv 4)) (sa_cons (se_nm (pv 5)) sa_nil)) (hn := (aCons_len (aCons_len aNil_len))))) (sa_cons (se_nm (pv 4)) (sa_cons (se_nm (pv 6)) sa_nil))))))) (hn := (aCons_len (aCons_len (aCons_len (aCons_len (aCons_len (aCons_len (aCons_len aNil_len))))))))))
    (ss_cons (ss_set (i := 8) D.nd rfl (by first | exact Or.inl rfl | exact Or.inr rfl) rfl (w_add (Dk.s D) (so_nm (pv 8)) (so_ev (se_lst (sa_cons (se_tup (sa_cons (se_str (by decide +kernel)) (sa_cons se_int sa_nil)) (hn := (aCons_len (aCons_len aNil_len)))) (sa_cons (se_tup (sa_cons (se_nm (pv 4)) (sa_cons (se_nm (pv 6)) sa_nil)) (hn := (aCons_len (aCons_len aNil_len)))) sa_nil)) (hn := (aCons_len (aCons_len aNil_len)))))))
    (ss_cons (ss_if (t_lt (Dk.s D) (so_nm (pv 3)) (so_ev se_int)) (ss_one (ss_ret (w_add (Dk.s D) (so_ev (w_add (Dk.s D) (so_ev (e_sl (Dk.s D) (so_nm (pv 1)) sb_none (sb_some (se_nm (pv 2))))) (so_ev (se_tup (sa_cons (e_ix (Dk.s D) (so_nm (pv 8)) (so_nm (pv 3)) (fun _ _ => rfl)) sa_nil) (hn := (aCons_len aNil_len)))))) (so_ev (e_sl (Dk.s D) (so_nm (pv 1)) (sb_some (w_add (Dk.s D) (so_nm (pv 2)) (so_ev se_int))) sb_none))))) ss_nil)
    (ss_cons (ss_set (i := 9) D.nd rfl (by first | exact Or.inl rfl | exact Or.inr rfl) rfl (e_tuple (Dk.s D) T.b_tuple (by rfl) (so_ev (se_comp (own := [("_law_letter", 11)]) D.calm D.nd (si_str (se_str (by decide +kernel))) ⟨blkOk_by (by kernel_rfl), (fun s H C cl fp => (sg_name (D.blk s H _ _ fp).nd rfl (by first | exact Or.inl rfl | exact Or.inr rfl) rfl)), (fun s H C cl fp => pts_yes), (fun s H C cl fp => (se_tup (sa_cons (se_nm (pv 11)) (sa_cons se_int sa_nil)) (hn := (aCons_len (aCons_len aNil_len)))))⟩))))
    (ss_cons (ss_set (i := 10) D.nd rfl (by first | exact Or.inl rfl | exact Or.inr rfl) rfl (w_add (Dk.s D) (so_ev (w_add (Dk.s D) (so_ev (e_sl (Dk.s D) (so_nm (pv 1)) sb_none (sb_some (se_nm (pv 2))))) (so_ev (se_tup (sa_cons (e_ix (Dk.s D) (so_nm (pv 1)) (so_nm (pv 2)) (fun _ _ => rfl)) sa_nil) (hn := (aCons_len aNil_len)))))) (so_ev (e_sl (Dk.s D) (so_nm (pv 1)) (sb_some (se_nm (pv 2))) sb_none))))
    (ss_one (ss_ret (e_ix (Dk.s D) (so_ev (se_frz (se_lst (sa_cons (se_nm (pv 10)) (sa_cons (se_frz (e_list (Dk.s D) T.b_list (by rfl) (so_nm (pv 1)))) (sa_cons (se_tup sa_nil (hn := aNil_len)) (sa_cons (se_nm (pv 9)) (sa_cons se_non (sa_cons (se_nm (pv 4)) (sa_cons (e_ix (Dk.s D) (so_nm (pv 1)) (so_nm (pv 2)) (fun _ _ => rfl)) sa_nil))))))) (hn := (aCons_len (aCons_len (aCons_len (aCons_len (aCons_len (aCons_len (aCons_len aNil_len))))))))))) (so_ev (w_sub (Dk.s D) (so_nm (pv 3)) (so_ev se_int))) (fun _ _ => rfl)))))))))))))
theorem sc__law_wrong_tests : FnScope ["_law_well_here", "_law_good", "_law_head", "_law_number_here", "_law_way", "_law_some", "_law_place"] ["_law_well_here", "_law_good", "_law_head"] (defScope (top 44)) := ⟨rfl, rfl, rfl, by decide +kernel, rfl, by decide +kernel, by decide +kernel⟩
theorem ok__law_wrong_tests (T : Txt K mg c) : Def P w K mg base c 2 "_law_wrong_tests" (top 44) ["_law_well_here", "_law_good", "_law_head"] f__law_wrong_tests := by
  obtain ⟨f, fd, hm, F, hb⟩ := T.d__law_wrong_tests
  refine ⟨f, fd, hm, F, hb, ok_def (N := ["_law_well_here", "_law_good", "_law_head", "_law_number_here", "_law_way", "_law_some", "_law_place"]) (sem := b__law_wrong_tests) [true, true, true] T.hK F sc__law_wrong_tests rfl (by decide) ?_⟩
  rintro X W ⟨cdv, A, outer, s, H, E, rfl⟩ D
  exact (ss_cons (ss_par2 D.calm D.nd rfl rfl (by decide) rfl rfl rfl rfl (sa_cons (e_call D (ok__law_draw T) (by decide) (by rfl) (sos_cons (so_nm (pv 0)) (sos_cons (so_ev (w_pow (Dk.s D) (so_ev se_int) (so_ev se_int))) sos_nil)) rfl) (sa_cons (e_call D (ok__law_draw T) (by decide) (by rfl) (sos_cons (so_nm (pv 0)) (sos_cons (so_ev se_int) sos_nil)) rfl) sa_nil)) (by first | rfl | kernel_rfl))
    (ss_cons (ss_set (i := 5) D.nd rfl (by first | exact Or.inl rfl | exact Or.inr rfl) rfl (se_lst (sa_cons (se_tup (sa_cons (se_str (by decide +kernel)) (sa_cons (se_str (by decide +kernel)) (sa_cons (se_nm (pv 3)) sa_nil))) (hn := (aCons_len (aCons_len (aCons_len aNil_len))))) (sa_cons (se_tup (sa_cons (se_str (by decide +kernel)) (sa_cons (se_nm (pv 2)) sa_nil)) (hn := (aCons_len (aCons_len aNil_len)))) (sa_cons (se_tup (sa_cons (se_str (by decide +kernel)) (sa_cons (se_nm (pv 2)) (sa_cons (w_sub (Dk.s D) (so_ev (w_neg (Dk.s D) (so_ev se_int))) (so_nm (pv 3))) sa_nil))) (hn := (aCons_len (aCons_len (aCons_len aNil_len))))) (sa_cons (se_tup (sa_cons (se_str (by decide +kernel)) (sa_cons (se_nm (pv 2)) (sa_cons se_bl sa_nil))) (hn := (aCons_len (aCons_len (aCons_len aNil_len))))) sa_nil)))) (hn := (aCons_len (aCons_len (aCons_len (aCons_len aNil_len)))))))
    (ss_cons (ss_set (i := 5) D.nd rfl (by first | exact Or.inl rfl | exact Or.inr rfl) rfl (w_add (Dk.s D) (so_nm (pv 5)) (so_ev (se_lst (sa_cons (se_tup (sa_cons (se_str (by decide +kernel)) (sa_cons (se_nm (pv 2)) (sa_cons (w_pow (Dk.s D) (so_ev se_int) (so_ev se_int)) sa_nil))) (hn := (aCons_len (aCons_len (aCons_len aNil_len))))) (sa_cons (se_tup (sa_cons (se_str (by decide +kernel)) (sa_cons (se_nm (pv 2)) (sa_cons (se_str (by decide +kernel)) sa_nil))) (hn := (aCons_len (aCons_len (aCons_len aNil_len))))) (sa_cons (se_tup (sa_cons (se_str (by decide +kernel)) (sa_cons (se_nm (pv 2)) (sa_cons se_non sa_nil))) (hn := (aCons_len (aCons_len (aCons_len aNil_len))))) (sa_cons (se_tup (sa_cons (se_str (by decide +kernel)) (sa_cons (se_nm (pv 2)) (sa_cons (w_neg (Dk.s D) (so_ev se_int)) sa_nil))) (hn := (aCons_len (aCons_len (aCons_len aNil_len))))) sa_nil)))) (hn := (aCons_len (aCons_len (aCons_len (aCons_len aNil_len)))))))))
    (ss_cons (ss_set (i := 5) D.nd rfl (by first | exact Or.inl rfl | exact Or.inr rfl) rfl (w_add (Dk.s D) (so_nm (pv 5)) (so_ev (se_lst (sa_cons (se_tup (sa_cons (se_str (by decide +kernel)) (sa_cons (se_nm (pv 2)) (sa_cons (w_add (Dk.s D) (so_ev (w_pow (Dk.s D) (so_ev se_int) (so_ev se_int))) (so_nm (pv 3))) sa_nil))) (hn := (aCons_len (aCons_len (aCons_len aNil_len))))) (sa_cons (se_tup (sa_cons (se_str (by decide +kernel)) (sa_cons (se_nm (pv 2)) sa_nil)) (hn := (aCons_len (aCons_len aNil_len)))) (sa_cons (se_tup (sa_cons (se_str (by decide +kernel)) (sa_cons (se_nm (pv 2)) (sa_cons (se_nm (pv 3)) sa_nil))) (hn := (aCons_len (aCons_len (aCons_len aNil_len))))) (sa_cons (se_tup (sa_cons (se_str (by decide +kernel)) sa_nil) (hn := (aCons_len aNil_len))) sa_nil)))) (hn := (aCons_len (aCons_len (aCons_len (aCons_len aNil_len)))))))))
    (ss_cons (ss_set (i := 5) D.nd rfl (by first | exact Or.inl rfl | exact Or.inr rfl) rfl (w_add (Dk.s D) (so_nm (pv 5)) (so_ev (se_lst (sa_cons (se_tup (sa_cons (se_str (by decide +kernel)) (sa_cons (se_nm (pv 2)) (sa_cons (se_nm (pv 3)) sa_nil))) (hn := (aCons_len (aCons_len (aCons_len aNil_len))))) (sa_cons (se_tup (sa_cons (se_str (by decide +kernel)) (sa_cons (se_nm (pv 2)) (sa_cons (se_nm (pv 3)) sa_nil))) (hn := (aCons_len (aCons_len (aCons_len aNil_len))))) (sa_cons (se_tup (sa_cons se_non (sa_cons (se_nm (pv 2)) (sa_cons se_int sa_nil))) (hn := (aCons_len (aCons_len (aCons_len aNil_len))))) (sa_cons (se_tup (sa_cons se_int (sa_cons (se_nm (pv 2)) (sa_cons se_int sa_nil))) (hn := (aCons_len (aCons_len (aCons_len aNil_len))))) sa_nil)))) (hn := (aCons_len (aCons_len (aCons_len (aCons_len aNil_len)))))))))
    (ss_cons (ss_set (i := 5) D.nd rfl (by first | exact Or.inl rfl | exact Or.inr rfl) rfl (w_add (Dk.s D) (so_nm (pv 5)) (so_ev (se_frz (se_lst (sa_cons (se_frz (se_lst (sa_cons (se_str (by decide +kernel)) (sa_cons (se_nm (pv 2)) sa_nil)) (hn := (aCons_len (aCons_len aNil_len))))) (sa_cons (se_str (by decide +kernel)) (sa_cons se_non (sa_cons (se_tup sa_nil (hn := aNil_len)) (sa_cons (se_tup (sa_cons (se_str (by decide +kernel)) (sa_cons (se_str (by decide +kernel)) sa_nil)) (hn := (aCons_len (aCons_len aNil_len)))) (sa_cons (se_tup (sa_cons (se_str (by decide +kernel)) (sa_cons se_int sa_nil)) (hn := (aCons_len (aCons_len aNil_len)))) (sa_cons (se_frz (se_tup (sa_cons (se_frz (se_lst (sa_cons (se_str (by decide +kernel)) sa_nil) (hn := (aCons_len aNil_len)))) (sa_cons (se_nm (pv 2)) (sa_cons se_int sa_nil))) (hn := (aCons_len (aCons_len (aCons_len aNil_len)))))) sa_nil))))))) (hn := (aCons_len (aCons_len (aCons_len (aCons_len (aCons_len (aCons_len (aCons_len aNil_len)))))))))))))
    (ss_cons (ss_set (i := 5) D.nd rfl (by first | exact Or.inl rfl | exact Or.inr rfl) rfl (w_add (Dk.s D) (so_nm (pv 5)) (so_ev (se_lst (sa_cons (se_tup (sa_cons (se_str (by decide +kernel)) (sa_cons (se_str (by decide +kernel)) sa_nil)) (hn := (aCons_len (aCons_len aNil_len)))) (sa_cons (se_tup (sa_cons (se_str (by decide +kernel)) (sa_cons (se_nm (pv 2)) (sa_cons se_bl sa_nil))) (hn := (aCons_len (aCons_len (aCons_len aNil_len))))) (sa_cons (se_tup (sa_cons (se_str (by decide +kernel)) (sa_cons (se_nm (pv 2)) (sa_cons se_int (sa_cons se_int sa_nil)))) (hn := (aCons_len (aCons_len (aCons_len (aCons_len aNil_len)))))) sa_nil))) (hn := (aCons_len (aCons_len (aCons_len aNil_len))))))))
    (ss_cons (ss_if (t_lt (Dk.s D) (so_nm (pv 4)) (so_ev se_int)) (ss_cons (ss_set (i := 6) D.nd rfl (by first | exact Or.inl rfl | exact Or.inr rfl) rfl (e_call D (ok__law_draw T) (by decide) (by rfl) (sos_cons (so_nm (pv 0)) (sos_cons (so_ev (w_add (Dk.s D) (so_ev (e_len (Dk.s D) T.b_len (by rfl) (so_nm (pv 1)))) (so_ev se_int))) sos_nil)) rfl))
    (ss_one (ss_ret (w_add (Dk.s D) (so_ev (w_add (Dk.s D) (so_ev (e_sl (Dk.s D) (so_nm (pv 1)) sb_none (sb_some (se_nm (pv 6))))) (so_ev (se_tup (sa_cons (e_ix (Dk.s D) (so_nm (pv 5)) (so_nm (pv 4)) (fun _ _ => rfl)) sa_nil) (hn := (aCons_len aNil_len)))))) (so_ev (e_sl (Dk.s D) (so_nm (pv 1)) (sb_some (se_nm (pv 6))) sb_none)))))) ss_nil)
    (ss_one (ss_ret (e_ix (Dk.s D) (so_ev (se_frz (se_lst (sa_cons (se_frz (e_list (Dk.s D) T.b_list (by rfl) (so_nm (pv 1)))) (sa_cons se_non sa_nil)) (hn := (aCons_len (aCons_len aNil_len)))))) (so_ev (w_sub (Dk.s D) (so_nm (pv 4)) (so_ev se_int))) (fun _ _ => rfl))))))))))))
theorem sc__law_refused : FnScope ["_law_parts", "_law_way", "_law_told", "e", "_law_others"] ["_law_parts", "_law_way"] (defScope (top 45)) := ⟨rfl, rfl, rfl, by decide +kernel, rfl, by decide +kernel, by decide +kernel⟩
theorem ok__law_refused (T : Txt K mg c) : Def P w K mg base c 8 "_law_refused" (top 45) ["_law_parts", "_law_way"] f__law_refused := by
  obtain ⟨f, fd, hm, F, hb⟩ := T.d__law_refused
  refine ⟨f, fd, hm, F, hb, ok_def (N := ["_law_parts", "_law_way", "_law_told", "e", "_law_others"]) (sem := b__law_refused) [true, true] T.hK F sc__law_refused rfl (by decide) ?_⟩
  rintro X W ⟨cdv, A, outer, s, H, E, rfl⟩ D
  exact (ss_cons (ss_set (i := 2) D.nd rfl (by first | exact Or.inl rfl | exact Or.inr rfl) rfl se_non)
    (ss_cons (ss_try D (fun W' pn xe D' => (ss_one (ss_if (t_eq (Dk.s D') (so_nm (pv 1)) (so_ev se_int)) (ss_one (ss_do (e_makeX (nd := 2) (ks := []) (J := []) (pp := [0, 1, 2, 3]) (qq := [0, 1, 2, 3]) D' (ok_Sending___init__ T) T.mk_Sending T.kp_Sending (by decide) (by rfl) T.ct_Sending.mg (fun _ _ _ _ _ _ _ us ws its h1 h2 h3 => match us, ws, its, h1, h2, h3 with | [_, _, _, _], [], [_, _], _, _, _ => ⟨_, rfl, rfl⟩) rfl rfl (by decide) rfl (sos_cons (so_ev (e_ix (Dk.s D') (so_nm (pv 0)) (so_ev se_int) (fun _ _ => rfl))) (sos_cons (so_ev (e_ix (Dk.s D') (so_nm (pv 0)) (so_ev se_int) (fun _ _ => rfl))) (sos_cons (so_ev (e_ix (Dk.s D') (so_nm (pv 0)) (so_ev se_int) (fun _ _ => rfl))) sos_nil))) sk_nil))) (ss_one (ss_if (t_eq (Dk.s D') (so_nm (pv 1)) (so_ev se_int)) (ss_one (ss_do (e_makeX0 (nd := 2) (ks := ["once", "tests", "shown"]) (J := []) (pp := [0, 3, 2, 1]) (qq := [0, 3, 2, 1]) D' (ok_Sending___init__ T) T.mk_Sending T.kp_Sending (by decide) (by rfl) T.ct_Sending.mg (fun _ _ _ _ _ _ _ us ws its h1 h2 h3 => match us, ws, its, h1, h2, h3 with | [_], [_, _, _], [_, _], _, _, _ => ⟨_, rfl, rfl⟩) rfl rfl (by decide) rfl (sk_cons (so_ev (e_ix (Dk.s D') (so_nm (pv 0)) (so_ev se_int) (fun _ _ => rfl))) (sk_cons (so_ev (e_ix (Dk.s D') (so_nm (pv 0)) (so_ev se_int) (fun _ _ => rfl))) (sk_cons (so_ev (e_ix (Dk.s D') (so_nm (pv 0)) (so_ev se_int) (fun _ _ => rfl))) sk_nil)))))) (ss_one (ss_do (e_makeX (nd := 2) (ks := ["once"]) (J := []) (pp := [0, 1, 2, 3]) (qq := [0, 1, 2, 3]) D' (ok_Sending___init__ T) T.mk_Sending T.kp_Sending (by decide) (by rfl) T.ct_Sending.mg (fun _ _ _ _ _ _ _ us ws its h1 h2 h3 => match us, ws, its, h1, h2, h3 with | [_, _, _], [_], [_, _], _, _, _ => ⟨_, rfl, rfl⟩) rfl rfl (by decide) rfl (sos_cons (so_ev (e_ix (Dk.s D') (so_nm (pv 0)) (so_ev se_int) (fun _ _ => rfl))) (sos_cons (so_ev (e_ix (Dk.s D') (so_nm (pv 0)) (so_ev se_int) (fun _ _ => rfl))) sos_nil)) (sk_cons (so_ev (e_ix (Dk.s D') (so_nm (pv 0)) (so_ev se_int) (fun _ _ => rfl))) sk_nil))))))))) (.consAs (i := 3) rfl rfl rfl ⟨rfl, by decide, .inl T.x_NoSending.mg⟩ (T.s_NoSending.exm T.x_NoSending) (fun a pn => (ss_cons (ss_set (i := 4) (Ds.suite (Dk.s D) a pn).nd rfl (by first | exact Or.inl rfl | exact Or.inr rfl) rfl (e_ixT (ks := [1, 3, 4, 7]) T.xall T.xg T.b_isinstance (by rfl) (ces_cons (ce_own T.x_NoColumns (by rfl)) (ces_cons (ce_own T.x_NoJoining (by rfl)) (ces_cons (ce_own T.x_NoMeanwhile (by rfl)) (ces_cons (ce_own T.x_NoText (by rfl)) ces_nil)))) (by show 4 ≤ sizeLine; decide) (xa_cons (T.s_NoColumns.kit T.x_NoColumns (by decide) (by decide)) (xa_cons (T.s_NoJoining.kit T.x_NoJoining (by decide) (by decide)) (xa_cons (T.s_NoMeanwhile.kit T.x_NoMeanwhile (by decide) (by decide)) (xa_cons (T.s_NoText.kit T.x_NoText (by decide) (by decide)) xa_nil)))) (so_nm (pv 3))))
    (ss_one (ss_set (i := 2) (Ds.suite (Dk.s D) a pn).nd rfl (by first | exact Or.inl rfl | exact Or.inr rfl) rfl (se_tup (sa_cons (e_xfld (Ds.suite (Dk.s D) a pn) T.x_NoSending T.cf_NoSending (j := 0) rfl (by decide +kernel) T.no_NoSending_part (so_nm (pv 3))) (sa_cons (se_and (e_ix1 (ks := [0, 1, 2, 3, 4, 5, 6, 7]) T.xall T.xg T.b_isinstance (by rfl) (ce_own T.x_SheetError (by rfl)) (T.s_SheetError.kit T.x_SheetError (by decide) (by decide)) (so_nm (pv 3))) (se_and (e_ix1 (ks := [0, 1, 2, 3, 4, 5, 6, 7]) T.xall T.xg T.b_isinstance (by rfl) (ce_ty (by rfl) T.b_ValueError (by decide +kernel)) (T.s_ValueError.kitT (by decide +kernel)) (so_nm (pv 3))) (se_one (se_not (se_nm (pv 4)))))) sa_nil)) (hn := (aCons_len (aCons_len aNil_len)))))))) .nil))
    (ss_one (ss_ret (se_mv (pv 2))))))
theorem sc_Sending_parts : FnScope ["self"] ["self"] (defScope (inClass (top 32) 2)) := ⟨rfl, rfl, rfl, by decide +kernel, rfl, by decide +kernel, by decide +kernel⟩
theorem ok_Sending_parts (T : Txt K mg c) : MDef P w K mg base c 1 8 "parts" "Sending.parts" (inClass (top 32) 2) ["self"] f_Sending_parts := by
  obtain ⟨f, fd, M⟩ := T.m_Sending_parts
  refine ⟨f, fd, M, ok_def (N := ["self"]) (sem := b_Sending_parts) [true] T.hK M.2.2.2.1 sc_Sending_parts rfl (by decide) ?_⟩
  rintro X W ⟨cdv, A, outer, s, H, E, rfl⟩ D
  exact (ss_one (ss_ret (se_tup (sa_cons (e_fld T.fl_shown (so_nm (pv 0))) (sa_cons (e_fld T.fl_tests (so_nm (pv 0))) (sa_cons (e_fld T.fl_once (so_nm (pv 0))) sa_nil))) (hn := (aCons_len (aCons_len (aCons_len aNil_len)))))))
theorem sc_Sending___eq__ : FnScope ["self", "other"] ["self", "other"] (defScope (inClass (top 32) 8)) := ⟨rfl, rfl, rfl, by decide +kernel, rfl, by decide +kernel, by decide +kernel⟩
theorem ok_Sending___eq__ (T : Txt K mg c) : MDef P w K mg base c 3 8 "__eq__" "Sending.__eq__" (inClass (top 32) 8) ["self", "other"] f_Sending___eq__ := by
  obtain ⟨f, fd, M⟩ := T.m_Sending___eq__
  refine ⟨f, fd, M, ok_def (N := ["self", "other"]) (sem := b_Sending___eq__) [true, true] T.hK M.2.2.2.1 sc_Sending___eq__ rfl (by decide) ?_⟩
  rintro X W ⟨cdv, A, outer, s, H, E, rfl⟩ D
  exact (ss_one (ss_ret (se_and (e_isaI (Dk.s D) T.cts T.xg T.ct_Sending T.is_Sending T.b_isinstance (by rfl) (by rfl) (so_nm (pv 1))) (se_one (e_eq (Dk.s D) (so_ev (e_meth0 D (so_nm (pv 0)) (ms_cons ((ok_Sending_parts T).mok T.ct_Sending.cl T.cF_Sending (by decide) (by decide)) ms_nil) rfl (pl := _) (by exact rfl))) (so_ev (e_meth0 D (so_nm (pv 1)) (ms_cons ((ok_Sending_parts T).mok T.ct_Sending.cl T.cF_Sending (by decide) (by decide)) ms_nil) rfl (pl := _) (by exact rfl))))))))
theorem sc_Sheet___eq__ : FnScope ["self", "other"] ["self", "other"] (defScope (inClass (top 33) 14)) := ⟨rfl, rfl, rfl, by decide +kernel, rfl, by decide +kernel, by decide +kernel⟩
theorem ok_Sheet___eq__ (T : Txt K mg c) : MDef P w K mg base c 1 9 "__eq__" "Sheet.__eq__" (inClass (top 33) 14) ["self", "other"] f_Sheet___eq__ := by
  obtain ⟨f, fd, M⟩ := T.m_Sheet___eq__
  refine ⟨f, fd, M, ok_def (N := ["self", "other"]) (sem := b_Sheet___eq__) [true, true] T.hK M.2.2.2.1 sc_Sheet___eq__ rfl (by decide) ?_⟩
  rintro X W ⟨cdv, A, outer, s, H, E, rfl⟩ D
  exact (ss_one (ss_ret (se_and (e_isaI (Dk.s D) T.cts T.xg T.ct_Sheet T.is_Sheet T.b_isinstance (by rfl) (by rfl) (so_nm (pv 1))) (se_and (e_eqF2 (Dk.s D) T.fl_heads T.fl_heads (pv 0) (pv 1)) (se_one (e_eqF2 (Dk.s D) T.fl_body T.fl_body (pv 0) (pv 1)))))))
theorem sc__law_good_right : FnScope ["_law_parts", "_law_more", "_law_sending", "_law_twin", "_law_heads", "_law_bare", "_law_other", "_law_odd", "_law_head", "_law_grain"] ["_law_parts", "_law_more"] (defScope (top 46)) := ⟨rfl, rfl, rfl, by decide +kernel, rfl, by decide +kernel, by decide +kernel⟩
theorem ok__law_good_right (T : Txt K mg c) : Def P w K mg base c 8 "_law_good_right" (top 46) ["_law_parts", "_law_more"] f__law_good_right := by
  obtain ⟨f, fd, hm, F, hb⟩ := T.d__law_good_right
  refine ⟨f, fd, hm, F, hb, ok_def (N := ["_law_parts", "_law_more", "_law_sending", "_law_twin", "_law_heads", "_law_bare", "_law_other", "_law_odd", "_law_head", "_law_grain"]) (sem := b__law_good_right) [true, true] T.hK F sc__law_good_right rfl (by decide) ?_⟩
  rintro X W ⟨cdv, A, outer, s, H, E, rfl⟩ D
  exact (ss_cons (ss_set (i := 2) D.nd rfl (by first | exact Or.inl rfl | exact Or.inr rfl) rfl (e_makeX (nd := 2) (ks := []) (J := []) (pp := [0, 1, 2, 3]) (qq := [0, 1, 2, 3]) D (ok_Sending___init__ T) T.mk_Sending T.kp_Sending (by decide) (by rfl) T.ct_Sending.mg (fun _ _ _ _ _ _ _ us ws its h1 h2 h3 => match us, ws, its, h1, h2, h3 with | [_, _, _, _], [], [_, _], _, _, _ => ⟨_, rfl, rfl⟩) rfl rfl (by decide) rfl (sos_cons (so_ev (e_ix (Dk.s D) (so_nm (pv 0)) (so_ev se_int) (fun _ _ => rfl))) (sos_cons (so_ev (e_ix (Dk.s D) (so_nm (pv 0)) (so_ev se_int) (fun _ _ => rfl))) (sos_cons (so_ev (e_ix (Dk.s D) (so_nm (pv 0)) (so_ev se_int) (fun _ _ => rfl))) sos_nil))) sk_nil))
    (ss_cons (ss_set (i := 3) D.nd rfl (by first | exact Or.inl rfl | exact Or.inr rfl) rfl (e_makeX0 (nd := 2) (ks := ["tests", "shown", "once"]) (J := []) (pp := [0, 2, 1, 3]) (qq := [0, 2, 1, 3]) D (ok_Sending___init__ T) T.mk_Sending T.kp_Sending (by decide) (by rfl) T.ct_Sending.mg (fun _ _ _ _ _ _ _ us ws its h1 h2 h3 => match us, ws, its, h1, h2, h3 with | [_], [_, _, _], [_, _], _, _, _ => ⟨_, rfl, rfl⟩) rfl rfl (by decide) rfl (sk_cons (so_ev (e_ix (Dk.s D) (so_nm (pv 0)) (so_ev se_int) (fun _ _ => rfl))) (sk_cons (so_ev (e_ix (Dk.s D) (so_nm (pv 0)) (so_ev se_int) (fun _ _ => rfl))) (sk_cons (so_ev (e_ix (Dk.s D) (so_nm (pv 0)) (so_ev se_int) (fun _ _ => rfl))) sk_nil)))))
    (ss_cons (ss_set (i := 4) D.nd rfl (by first | exact Or.inl rfl | exact Or.inr rfl) rfl (e_tuple (Dk.s D) T.b_tuple (by rfl) (so_ev (se_comp (own := [("_law_head", 8), ("_law_grain", 9)]) D.calm D.nd (si_e D.K (e_ix (Dk.s D) (so_nm (pv 0)) (so_ev se_int) (fun _ _ => rfl))) ⟨blkOk_by (by kernel_rfl), (fun s H C cl fp => (sg_tup (D.blk s H _ _ fp).K (D.blk s H _ _ fp).calm (sgs_cons (sg_name (D.blk s H _ _ fp).nd rfl (by first | exact Or.inl rfl | exact Or.inr rfl) rfl) (sgs_cons (sg_name (D.blk s H _ _ fp).nd rfl (by first | exact Or.inl rfl | exact Or.inr rfl) rfl) sgs_nil)))), (fun s H C cl fp => pts_yes), (fun s H C cl fp => (se_nm (pv 8)))⟩))))
    (ss_cons (ss_if (st_not (st_val (e_call D (ok__law_same T 6) (by decide) (by rfl) (sos_cons (so_ev (se_lst (sa_cons (se_frz (e_meth0 D (so_nm (pv 2)) (ms_cons ((ok_Sending_names T).mok T.ct_Sending.cl T.cF_Sending (by decide) (by decide)) (ms_cons ((ok_Sheet_names T).mok T.ct_Sheet.cl T.cF_Sheet (by decide) (by decide)) ms_nil)) rfl (pl := _) (by exact rfl))) (sa_cons (se_frz (e_meth0 D (so_nm (pv 2)) (ms_cons ((ok_Sending_parts T).mok T.ct_Sending.cl T.cF_Sending (by decide) (by decide)) ms_nil) rfl (pl := _) (by exact rfl))) sa_nil)) (hn := (aCons_len (aCons_len aNil_len))))) (sos_cons (so_ev (se_lst (sa_cons (se_nm (pv 4)) (sa_cons (se_nm (pv 0)) sa_nil)) (hn := (aCons_len (aCons_len aNil_len))))) sos_nil)) rfl))) (ss_one (ss_ret se_bl)) ss_nil)
    (ss_cons (ss_set (i := 5) D.nd rfl (by first | exact Or.inl rfl | exact Or.inr rfl) rfl (e_makeX (nd := 2) (ks := []) (J := [0, 1]) (pp := [0, 1, 2, 3]) (qq := [0, 1, 2, 3]) D (ok_Sending___init__ T) T.mk_Sending T.kp_Sending (by decide) (by rfl) T.ct_Sending.mg (fun _ _ _ _ _ _ _ us ws its h1 h2 h3 => match us, ws, its, h1, h2, h3 with | [_, _], [], [_, _], _, _, _ => ⟨_, rfl, rfl⟩) rfl rfl (by decide) rfl (sos_cons (so_ev (e_ix (Dk.s D) (so_nm (pv 0)) (so_ev se_int) (fun _ _ => rfl))) sos_nil) sk_nil))
    (ss_cons (ss_if (st_not (st_val (e_call D (ok__law_same T 6) (by decide) (by rfl) (sos_cons (so_ev (e_meth0 D (so_nm (pv 5)) (ms_cons ((ok_Sending_parts T).mok T.ct_Sending.cl T.cF_Sending (by decide) (by decide)) ms_nil) rfl (pl := _) (by exact rfl))) (sos_cons (so_ev (se_tup (sa_cons (e_ix (Dk.s D) (so_nm (pv 0)) (so_ev se_int) (fun _ _ => rfl)) (sa_cons (se_tup sa_nil (hn := aNil_len)) (sa_cons se_bl sa_nil))) (hn := (aCons_len (aCons_len (aCons_len aNil_len)))))) sos_nil)) rfl))) (ss_one (ss_ret se_bl)) ss_nil)
    (ss_cons (ss_if (SW.st (sw_or (t_ne (Dk.s D) (so_ev (e_eqI D T.cts T.xg (eqs_cons ((ok_Sending___eq__ T).eq rfl T.nf_Sending (by decide)) (eqs_cons ((ok_Sheet___eq__ T).eq rfl T.nf_Sheet (by decide)) eqs_nil)) (so_nm (pv 5)) (so_nm (pv 2)))) (so_ev (e_eq (Dk.s D) (so_ev (e_meth0 D (so_nm (pv 5)) (ms_cons ((ok_Sending_parts T).mok T.ct_Sending.cl T.cF_Sending (by decide) (by decide)) ms_nil) rfl (pl := _) (by exact rfl))) (so_nm (pv 0))))) (sw_or1 (t_eqI D T.cts T.xg (eqs_cons ((ok_Sending___eq__ T).eq rfl T.nf_Sending (by decide)) (eqs_cons ((ok_Sheet___eq__ T).eq rfl T.nf_Sheet (by decide)) eqs_nil)) (so_nm (pv 2)) (so_nm (pv 0)))))) (ss_one (ss_ret se_bl)) ss_nil)
    (ss_cons (ss_set (i := 6) D.nd rfl (by first | exact Or.inl rfl | exact Or.inr rfl) rfl (e_makeX (nd := 2) (ks := []) (J := []) (pp := [0, 1, 2, 3]) (qq := [0, 1, 2, 3]) D (ok_Sending___init__ T) T.mk_Sending T.kp_Sending (by decide) (by rfl) T.ct_Sending.mg (fun _ _ _ _ _ _ _ us ws its h1 h2 h3 => match us, ws, its, h1, h2, h3 with | [_, _, _, _], [], [_, _], _, _, _ => ⟨_, rfl, rfl⟩) rfl rfl (by decide) rfl (sos_cons (so_ev (e_ix (Dk.s D) (so_nm (pv 0)) (so_ev se_int) (fun _ _ => rfl))) (sos_cons (so_ev (se_if (t_ne (Dk.s D) (so_ev (e_ix (Dk.s D) (so_nm (pv 0)) (so_ev se_int) (fun _ _ => rfl))) (so_ev (se_tup sa_nil (hn := aNil_len)))) (e_sl (Dk.s D) (so_ev (e_ix (Dk.s D) (so_nm (pv 0)) (so_ev se_int) (fun _ _ => rfl))) (sb_some se_int) sb_none) (se_nm (pv 1)))) (sos_cons (so_ev (e_ix (Dk.s D) (so_nm (pv 0)) (so_ev se_int) (fun _ _ => rfl))) sos_nil))) sk_nil))
    (ss_cons (ss_if (SW.st (sw_or (t_eqI D T.cts T.xg (eqs_cons ((ok_Sending___eq__ T).eq rfl T.nf_Sending (by decide)) (eqs_cons ((ok_Sheet___eq__ T).eq rfl T.nf_Sheet (by decide)) eqs_nil)) (so_nm (pv 6)) (so_nm (pv 2))) (sw_or1 (t_eqI D T.cts T.xg (eqs_cons ((ok_Sending___eq__ T).eq rfl T.nf_Sending (by decide)) (eqs_cons ((ok_Sheet___eq__ T).eq rfl T.nf_Sheet (by decide)) eqs_nil)) (so_ev (e_makeX (nd := 2) (ks := []) (J := []) (pp := [0, 1, 2, 3]) (qq := [0, 1, 2, 3]) D (ok_Sending___init__ T) T.mk_Sending T.kp_Sending (by decide) (by rfl) T.ct_Sending.mg (fun _ _ _ _ _ _ _ us ws its h1 h2 h3 => match us, ws, its, h1, h2, h3 with | [_, _, _, _], [], [_, _], _, _, _ => ⟨_, rfl, rfl⟩) rfl rfl (by decide) rfl (sos_cons (so_ev (e_ix (Dk.s D) (so_nm (pv 0)) (so_ev se_int) (fun _ _ => rfl))) (sos_cons (so_ev (e_ix (Dk.s D) (so_nm (pv 0)) (so_ev se_int) (fun _ _ => rfl))) (sos_cons (so_ev (se_not (e_ix (Dk.s D) (so_nm (pv 0)) (so_ev se_int) (fun _ _ => rfl)))) sos_nil))) sk_nil)) (so_nm (pv 2)))))) (ss_one (ss_ret se_bl)) ss_nil)
    (ss_cons (ss_if (t_ne (Dk.s D) (so_ev (e_eqI D T.cts T.xg (eqs_cons ((ok_Sending___eq__ T).eq rfl T.nf_Sending (by decide)) (eqs_cons ((ok_Sheet___eq__ T).eq rfl T.nf_Sheet (by decide)) eqs_nil)) (so_ev (e_makeX (nd := 2) (ks := []) (J := []) (pp := [0, 1, 2, 3]) (qq := [0, 1, 2, 3]) D (ok_Sending___init__ T) T.mk_Sending T.kp_Sending (by decide) (by rfl) T.ct_Sending.mg (fun _ _ _ _ _ _ _ us ws its h1 h2 h3 => match us, ws, its, h1, h2, h3 with | [_, _, _, _], [], [_, _], _, _, _ => ⟨_, rfl, rfl⟩) rfl rfl (by decide) rfl (sos_cons (so_ev (e_rvA (Dk.s D) (so_ev (e_ix (Dk.s D) (so_nm (pv 0)) (so_ev se_int) (fun _ _ => rfl))))) (sos_cons (so_ev (e_ix (Dk.s D) (so_nm (pv 0)) (so_ev se_int) (fun _ _ => rfl))) (sos_cons (so_ev (e_ix (Dk.s D) (so_nm (pv 0)) (so_ev se_int) (fun _ _ => rfl))) sos_nil))) sk_nil)) (so_nm (pv 2)))) (so_ev (e_eq (Dk.s D) (so_ev (e_len (Dk.s D) T.b_len (by rfl) (so_ev (e_ix (Dk.s D) (so_nm (pv 0)) (so_ev se_int) (fun _ _ => rfl))))) (so_ev se_int)))) (ss_one (ss_ret se_bl)) ss_nil)
    (ss_cons (ss_set (i := 7) D.nd rfl (by first | exact Or.inl rfl | exact Or.inr rfl) rfl (e_tuple (Dk.s D) T.b_tuple (by rfl) (so_ev (se_comp (own := [("_law_head", 8), ("_law_grain", 9)]) D.calm D.nd (si_e D.K (e_ix (Dk.s D) (so_nm (pv 0)) (so_ev se_int) (fun _ _ => rfl))) ⟨blkOk_by (by kernel_rfl), (fun s H C cl fp => (sg_tup (D.blk s H _ _ fp).K (D.blk s H _ _ fp).calm (sgs_cons (sg_name (D.blk s H _ _ fp).nd rfl (by first | exact Or.inl rfl | exact Or.inr rfl) rfl) (sgs_cons (sg_name (D.blk s H _ _ fp).nd rfl (by first | exact Or.inl rfl | exact Or.inr rfl) rfl) sgs_nil)))), (fun s H C cl fp => pts_yes), (fun s H C cl fp => (se_tup (sa_cons (se_nm (pv 8)) (sa_cons (se_if (t_eq (Dk.s (D.blk s H _ _ fp)) (so_nm (pv 8)) (so_ev (se_str (by decide +kernel)))) se_int (w_add (Dk.s (D.blk s H _ _ fp)) (so_ev se_int) (so_ev (e_int (Dk.s (D.blk s H _ _ fp)) T.b_int (by rfl) (so_ev (e_eq (Dk.s (D.blk s H _ _ fp)) (so_nm (pv 9)) (so_ev se_int))))))) sa_nil)) (hn := (aCons_len (aCons_len aNil_len)))))⟩))))
    (ss_cons (ss_if (t_ne (Dk.s D) (so_ev (e_eqI D T.cts T.xg (eqs_cons ((ok_Sending___eq__ T).eq rfl T.nf_Sending (by decide)) (eqs_cons ((ok_Sheet___eq__ T).eq rfl T.nf_Sheet (by decide)) eqs_nil)) (so_ev (e_makeX (nd := 2) (ks := []) (J := []) (pp := [0, 1, 2, 3]) (qq := [0, 1, 2, 3]) D (ok_Sending___init__ T) T.mk_Sending T.kp_Sending (by decide) (by rfl) T.ct_Sending.mg (fun _ _ _ _ _ _ _ us ws its h1 h2 h3 => match us, ws, its, h1, h2, h3 with | [_, _, _, _], [], [_, _], _, _, _ => ⟨_, rfl, rfl⟩) rfl rfl (by decide) rfl (sos_cons (so_nm (pv 7)) (sos_cons (so_ev (e_ix (Dk.s D) (so_nm (pv 0)) (so_ev se_int) (fun _ _ => rfl))) (sos_cons (so_ev (e_ix (Dk.s D) (so_nm (pv 0)) (so_ev se_int) (fun _ _ => rfl))) sos_nil))) sk_nil)) (so_nm (pv 2)))) (so_ev (e_eq (Dk.s D) (so_nm (pv 7)) (so_ev (e_ix (Dk.s D) (so_nm (pv 0)) (so_ev se_int) (fun _ _ => rfl)))))) (ss_one (ss_ret se_bl)) ss_nil)
    (ss_one (ss_ret (se_and (e_eqI D T.cts T.xg (eqs_cons ((ok_Sending___eq__ T).eq rfl T.nf_Sending (by decide)) (eqs_cons ((ok_Sheet___eq__ T).eq rfl T.nf_Sheet (by decide)) eqs_nil)) (so_nm (pv 2)) (so_nm (pv 3))) (se_and (e_eqI D T.cts T.xg (eqs_cons ((ok_Sending___eq__ T).eq rfl T.nf_Sending (by decide)) (eqs_cons ((ok_Sheet___eq__ T).eq rfl T.nf_Sheet (by decide)) eqs_nil)) (so_nm (pv 3)) (so_nm (pv 2))) (se_one (se_not (e_neI (j := 3) D (by decide) (nes_cons T.ne_Sending T.ct_Sending.mo (nes_cons T.ne_Sheet T.ct_Sheet.mo nes_nil)) T.cts T.xg (eqs_cons ((ok_Sending___eq__ T).eq rfl T.nf_Sending (by decide)) (eqs_cons ((ok_Sheet___eq__ T).eq rfl T.nf_Sheet (by decide)) eqs_nil)) (so_nm (pv 2)) (so_nm (pv 3)))))))))))))))))))))
theorem sc__law_right : FnScope ["_law_well_here", "_law_turn", "_law_columns", "_law_parts", "_law_good", "_law_wrong", "_law_due", "_law_told"] ["_law_well_here", "_law_turn"] (defScope (top 47)) := ⟨rfl, rfl, rfl, by decide +kernel, rfl, by decide +kernel, by decide +kernel⟩
theorem ok__law_right (T : Txt K mg c) : Def P w K mg base c 9 "_law_right" (top 47) ["_law_well_here", "_law_turn"] f__law_right := by
  obtain ⟨f, fd, hm, F, hb⟩ := T.d__law_right
  refine ⟨f, fd, hm, F, hb, ok_def (N := ["_law_well_here", "_law_turn", "_law_columns", "_law_parts", "_law_good", "_law_wrong", "_law_due", "_law_told"]) (sem := b__law_right) [true, true] T.hK F sc__law_right rfl (by decide) ?_⟩
  rintro X W ⟨cdv, A, outer, s, H, E, rfl⟩ D
  exact (ss_cons (ss_set (i := 2) D.nd rfl (by first | exact Or.inl rfl | exact Or.inr rfl) rfl (e_call D (ok__law_names T) (by decide) (by rfl) (sos_cons (so_nm (pv 0)) (sos_cons (so_ev (w_add (Dk.s D) (so_ev se_int) (so_ev (e_call D (ok__law_draw T) (by decide) (by rfl) (sos_cons (so_nm (pv 0)) (sos_cons (so_ev se_int) sos_nil)) rfl)))) sos_nil)) rfl))
    (ss_cons (ss_set (i := 3) D.nd rfl (by first | exact Or.inl rfl | exact Or.inr rfl) rfl (se_lst (sa_cons (e_call D (ok__law_shown T) (by decide) (by rfl) (sos_cons (so_nm (pv 0)) (sos_cons (so_nm (pv 2)) sos_nil)) rfl) (sa_cons (e_sl (Dk.s D) (so_ev (e_call D (ok__law_tests T) (by decide) (by rfl) (sos_cons (so_nm (pv 0)) (sos_cons (so_nm (pv 2)) (sos_cons (so_ev (e_call D (ok__law_pool T) (by decide) (by rfl) (sos_cons (so_nm (pv 0)) sos_nil) rfl)) sos_nil))) rfl)) sb_none (sb_some se_int)) (sa_cons (e_eq (Dk.s D) (so_nm (pv 1)) (so_ev se_int)) sa_nil))) (hn := (aCons_len (aCons_len (aCons_len aNil_len))))))
    (ss_cons (ss_par3 D.calm D.nd rfl rfl rfl (by decide) (by decide) (by decide) rfl rfl rfl rfl rfl rfl (sa_cons (e_tuple (Dk.s D) T.b_tuple (by rfl) (so_nm (pv 3))) (sa_cons (e_call D (ok__law_draw T) (by decide) (by rfl) (sos_cons (so_nm (pv 0)) (sos_cons (so_ev se_int) sos_nil)) rfl) (sa_cons se_non sa_nil))) (by first | rfl | kernel_rfl))
    (ss_cons (ss_if (t_gt (Dk.s D) (so_nm (pv 5)) (so_ev se_int)) (ss_cons (ss_putL (pv 3) (e_ix (Dk.s D) (so_ev (se_frz (se_lst (sa_cons se_int (sa_cons se_int (sa_cons se_non (sa_cons (se_str (by decide +kernel)) (sa_cons (se_frz (se_lst sa_nil (hn := aNil_len))) (sa_cons (se_str (by decide +kernel)) sa_nil)))))) (hn := (aCons_len (aCons_len (aCons_len (aCons_len (aCons_len (aCons_len aNil_len)))))))))) (so_ev (e_call D (ok__law_draw T) (by decide) (by rfl) (sos_cons (so_nm (pv 0)) (sos_cons (so_ev se_int) sos_nil)) rfl)) (fun _ _ => rfl)) se_int)
    (ss_one (ss_set (i := 6) D.nd rfl (by first | exact Or.inl rfl | exact Or.inr rfl) rfl (se_str (by decide +kernel))))) ss_nil)
    (ss_cons (ss_if (t_eq (Dk.s D) (so_ev (w_mod (Dk.s D) (so_ev (e_int (Dk.s D) T.b_int (by rfl) (so_ev (w_div (Dk.s D) (so_nm (pv 5)) (so_ev se_int))))) (so_ev se_int))) (so_ev se_int)) (ss_cons (ss_putL (pv 3) (e_call D (ok__law_wrong_tests T) (by decide) (by rfl) (sos_cons (so_nm (pv 0)) (sos_cons (so_ev (e_ix (Dk.s D) (so_nm (pv 3)) (so_ev se_int) (fun _ _ => rfl))) (sos_cons (so_ev (e_ix (Dk.s D) (so_nm (pv 2)) (so_ev se_int) (fun _ _ => rfl))) sos_nil))) rfl) se_int)
    (ss_one (ss_set (i := 6) D.nd rfl (by first | exact Or.inl rfl | exact Or.inr rfl) rfl (se_str (by decide +kernel))))) ss_nil)
    (ss_cons (ss_if (t_eq (Dk.s D) (so_ev (w_mod (Dk.s D) (so_ev (e_int (Dk.s D) T.b_int (by rfl) (so_nm (pv 5)))) (so_ev se_int))) (so_ev se_int)) (ss_cons (ss_putL (pv 3) (e_call D (ok__law_wrong_shown T) (by decide) (by rfl) (sos_cons (so_nm (pv 0)) (sos_cons (so_ev (e_ix (Dk.s D) (so_nm (pv 3)) (so_ev se_int) (fun _ _ => rfl))) sos_nil)) rfl) se_int)
    (ss_one (ss_set (i := 6) D.nd rfl (by first | exact Or.inl rfl | exact Or.inr rfl) rfl (se_str (by decide +kernel))))) ss_nil)
    (ss_cons (ss_set (i := 7) D.nd rfl (by first | exact Or.inl rfl | exact Or.inr rfl) rfl (e_call D (ok__law_refused T) (by decide) (by rfl) (sos_cons (so_nm (pv 3)) (sos_cons (so_ev (e_call D (ok__law_draw T) (by decide) (by rfl) (sos_cons (so_nm (pv 0)) (sos_cons (so_ev se_int) sos_nil)) rfl)) sos_nil)) rfl))
    (ss_cons (ss_if (st_not (st_val (e_call D (ok__law_same T 6) (by decide) (by rfl) (sos_cons (so_nm (pv 7)) (sos_cons (so_ev (se_if (t_isN (Dk.s D) (so_nm (pv 6))) se_non (se_tup (sa_cons (se_nm (pv 6)) (sa_cons se_bl sa_nil)) (hn := (aCons_len (aCons_len aNil_len)))))) sos_nil)) rfl))) (ss_one (ss_ret se_bl)) ss_nil)
    (ss_one (ss_ret (se_or (e_noN (Dk.s D) (so_nm (pv 6))) (se_one (e_call D (ok__law_good_right T) (by decide) (by rfl) (sos_cons (so_nm (pv 4)) (sos_cons (so_ev (se_tup (sa_cons (se_tup (sa_cons (se_str (by decide +kernel)) (sa_cons (e_ix (Dk.s D) (so_nm (pv 2)) (so_ev se_int) (fun _ _ => rfl)) sa_nil)) (hn := (aCons_len (aCons_len aNil_len)))) sa_nil) (hn := (aCons_len aNil_len)))) sos_nil)) rfl)))))))))))))
theorem sc_law : FnScope ["_law_script", "_law_at", "_law_well_here", "_law_turn", "_law_seven", "_law_letter"] ["_law_script"] (defScope (top 48)) := ⟨rfl, rfl, rfl, by decide +kernel, rfl, by decide +kernel, by decide +kernel⟩
theorem ok_law (T : Txt K mg c) : Def P w K mg base c 10 "law" (top 48) ["_law_script"] f_law := by
  obtain ⟨f, fd, hm, F, hb⟩ := T.d_law
  refine ⟨f, fd, hm, F, hb, ok_def (N := ["_law_script", "_law_at", "_law_well_here", "_law_turn", "_law_seven", "_law_letter"]) (sem := b_law) [true] T.hK F sc_law rfl (by decide) ?_⟩
  rintro X W ⟨cdv, A, outer, s, H, E, rfl⟩ D
  exact (ss_cons (ss_for D (si_range1 (by rfl) T.b_range (e_max2 D T.b_max (by rfl) (so_ev se_int) (so_ev (e_min2 D T.b_min (by rfl) (so_ev se_int) (so_ev (e_len (Dk.s D) T.b_len (by rfl) (so_nm (pv 0)))))))) (sg_name D.nd rfl (by first | exact Or.inl rfl | exact Or.inr rfl) rfl) (ss_cons (ss_set (i := 2) D.nd rfl (by first | exact Or.inl rfl | exact Or.inr rfl) rfl (e_call D (ok__law_well T) (by decide) (by rfl) (sos_cons (so_nm (pv 0)) (sos_cons (so_nm (pv 1)) sos_nil)) rfl))
    (ss_one (ss_for D (si_range1 (by rfl) T.b_range se_int) (sg_name D.nd rfl (by first | exact Or.inl rfl | exact Or.inr rfl) rfl) (ss_one (ss_if (st_not (st_val (e_call D (ok__law_right T) (by decide) (by rfl) (sos_cons (so_nm (pv 2)) (sos_cons (so_nm (pv 3)) sos_nil)) rfl))) (ss_one (ss_ret se_bl)) ss_nil))))))
    (ss_cons (ss_set (i := 4) D.nd rfl (by first | exact Or.inl rfl | exact Or.inr rfl) rfl (e_makeX (nd := 2) (ks := []) (J := [0, 1]) (pp := [0, 1, 2, 3]) (qq := [0, 1, 2, 3]) D (ok_Sending___init__ T) T.mk_Sending T.kp_Sending (by decide) (by rfl) T.ct_Sending.mg (fun _ _ _ _ _ _ _ us ws its h1 h2 h3 => match us, ws, its, h1, h2, h3 with | [_, _], [], [_, _], _, _, _ => ⟨_, rfl, rfl⟩) rfl rfl (by decide) rfl (sos_cons (so_ev (e_tuple (Dk.s D) T.b_tuple (by rfl) (so_ev (se_comp (own := [("_law_letter", 5)]) D.calm D.nd (si_str (se_str (by decide +kernel))) ⟨blkOk_by (by kernel_rfl), (fun s H C cl fp => (sg_name (D.blk s H _ _ fp).nd rfl (by first | exact Or.inl rfl | exact Or.inr rfl) rfl)), (fun s H C cl fp => pts_yes), (fun s H C cl fp => (se_tup (sa_cons (se_nm (pv 5)) (sa_cons se_int sa_nil)) (hn := (aCons_len (aCons_len aNil_len)))))⟩)))) sos_nil) sk_nil))
    (ss_one (ss_ret (e_call D (ok__law_same T 6) (by decide) (by rfl) (sos_cons (so_ev (e_meth0 D (so_nm (pv 4)) (ms_cons ((ok_Sending_names T).mok T.ct_Sending.cl T.cF_Sending (by decide) (by decide)) (ms_cons ((ok_Sheet_names T).mok T.ct_Sheet.cl T.cF_Sheet (by decide) (by decide)) ms_nil)) rfl (pl := _) (by exact rfl))) (sos_cons (so_ev (e_tuple (Dk.s D) T.b_tuple (by rfl) (so_ev (e_listS D T.b_list (by rfl) (so_ev (se_str (by decide +kernel))))))) sos_nil)) rfl)))))
end
end Law
set_option Elab.async false
set_option linter.all false
set_option maxRecDepth 100000
set_option maxHeartbeats 1000000
namespace Law
open PySem (Str)
open Tr Tr.Ev
def pot (a b c : Int) : PV := .lst true [.int a, .int b, .int c]
structure PotOk (a b c : Int) (n : Int) : Prop where
  b0 : 0 ≤ b
  b1 : b < 2 ^ 200
  c0 : 0 ≤ c
  c1 : c + n ≤ 2 ^ 64
theorem log2_lt {i : Int} {k : Nat} (h0 : 0 ≤ i) (h : i < 2 ^ k) (hk : 0 < k) : i.natAbs.log2 < k := by
  obtain ⟨n, rfl⟩ := Int.eq_ofNat_of_zero_le h0
  have h' : n < 2 ^ k := by exact_mod_cast h
  rw [Int.natAbs_natCast]
  by_cases hn : n = 0
  · subst hn; rw [show Nat.log2 0 = 0 by decide]; exact hk
  · exact (Nat.log2_lt hn).mpr h'
theorem mulOk_lt {i j : Int} (h : i.natAbs.log2 + j.natAbs.log2 < 1000000) : mulOk i j = true := by unfold mulOk; simpa using h
theorem powOk3 {i : Int} (h : i.natAbs.log2 < 1000) : powOk i 3 = true := by
  unfold powOk
  rw [Bool.and_eq_true, decide_eq_true_eq, decide_eq_true_eq]
  exact ⟨by decide, by omega⟩
theorem divOk_lt {j : Int} (h0 : 0 < j) (h : j < 2 ^ 200) : divOk j = true := by
  unfold divOk
  rw [Bool.and_eq_true, decide_eq_true_eq, decide_eq_true_eq]
  exact ⟨h0, Nat.lt_trans (log2_lt (by omega) h (by decide)) (by decide)⟩
theorem tn3 : (3 : Int).toNat = 3 := by decide
theorem pow3 {x : Int} (h : powOk x 3 = true) : bPow (.int x) (.int 3) = some (.int (x ^ 3)) := by
  rw [pow_ii h, tn3]
theorem e18 : bPow (.int 10) (.int 18) = some (.int 1000000000000000000) := by
  rw [pow_ii (by decide +kernel)]
  exact congrArg (fun z => some (PV.int z)) (by decide +kernel : (10 : Int) ^ (18 : Int).toNat = 1000000000000000000)
theorem e30 : bPow (.int 10) (.int 30) = some (.int 1000000000000000000000000000000) := by
  rw [pow_ii (by decide +kernel)]
  exact congrArg (fun z => some (PV.int z)) (by decide +kernel : (10 : Int) ^ (30 : Int).toNat = 1000000000000000000000000000000)
theorem powOk2 {i : Int} (h : i.natAbs.log2 < 1000) : powOk i 2 = true := by
  unfold powOk
  rw [Bool.and_eq_true, decide_eq_true_eq, decide_eq_true_eq]
  exact ⟨by decide, by omega⟩
theorem tn2 : (2 : Int).toNat = 2 := by decide
theorem pow2 {x : Int} (h : powOk x 2 = true) : bPow (.int x) (.int 2) = some (.int (x ^ 2)) := by
  rw [pow_ii h, tn2]
theorem draw_a {a b c m : Int} (ha : 0 < a) (hm : 0 < m) (hd : divOk m = true) : f__law_draw [pot a b c, .int m] = .ok (.int (a % m)) [pot (a / m) b c, .int m] := by
  simp -implicitDefEqProofs [f__law_draw, b__law_draw, mk_eq, pot, mul_ii, div_ii, mod_ii, hm, ha, hd]
theorem draw_b {a b c m : Int} (ha : ¬ 0 < a) (hm : 0 < m) (k1 : mulOk 40503 (c + 1) = true) (k2 : mulOk 7 (c + 1) = true)
    (k3 : powOk (b + 40503 * (c + 1)) 3 = true)
    (k4 : powOk ((b + 40503 * (c + 1)) ^ 3 % 170141183460469231731687303715884105727 + 7 * (c + 1)) 2 = true) :
    f__law_draw [pot a b c, .int m] = .ok (.int (((b + 40503 * (c + 1)) ^ 3 % 170141183460469231731687303715884105727 + 7 * (c + 1)) ^ 2 % 618970019642690137449562111 / 1024 % m)) [pot a b (c + 1), .int m] := by
  have d7 : divOk 1024 = true := by decide +kernel
  simp -implicitDefEqProofs [f__law_draw, b__law_draw, mk_eq, pot, mul_ii, div_ii, mod_ii, pow3, pow2, ha, hm, k1, k2, k3, k4, d7]
theorem n1 {b c n : Int} {a : Int} (h : PotOk a b c (n + 1)) (hn : 0 ≤ n) : (c + 1).natAbs.log2 < 65 := by
  have hc0 := h.c0
  have hc1 := h.c1
  exact log2_lt (by omega) (by omega) (by decide)
theorem n2 {a b c n : Int} (h : PotOk a b c (n + 1)) (hn : 0 ≤ n) : (b + 40503 * (c + 1)).natAbs.log2 < 201 := by
  have hb1 := h.b1
  have hb0 := h.b0
  have hc0 := h.c0
  have hc1 := h.c1
  exact log2_lt (by omega) (by omega) (by decide)
theorem n3 {x c n : Int} (hc0 : 0 ≤ c) (hc1 : c + (n + 1) ≤ 2 ^ 64) (hn : 0 ≤ n) : (x % 170141183460469231731687303715884105727 + 7 * (c + 1)).natAbs.log2 < 201 := by
  have m0 : 0 ≤ x % 170141183460469231731687303715884105727 := Int.emod_nonneg _ (by decide)
  have m1 : x % 170141183460469231731687303715884105727 < 170141183460469231731687303715884105727 := Int.emod_lt_of_pos _ (by decide)
  generalize x % 170141183460469231731687303715884105727 = y at m0 m1 ⊢
  exact log2_lt (by omega) (by omega) (by decide)
/-- a pot that n draws leave good -/
structure Pot (v : PV) (n : Int) : Prop where
  ok : ∃ a b c, v = pot a b c ∧ PotOk a b c n
  n0 : 0 ≤ n
theorem Pot.less {v : PV} {n m : Int} (h : Pot v n) (h0 : 0 ≤ m) (hl : m ≤ n) : Pot v m := by
  obtain ⟨⟨a, b, c, e, q⟩, _⟩ := h
  exact ⟨⟨a, b, c, e, q.b0, q.b1, q.c0, by have := q.c1; omega⟩, h0⟩
theorem Pot.own {v : PV} {n : Int} (h : Pot v n) : fro v = false := by
  obtain ⟨⟨a, b, c, rfl, q⟩, _⟩ := h
  exact fro_lt
/-- a draw below m -/
theorem draw_ok {v : PV} {m n : Int} (h : Pot v (n + 1)) (hn : 0 ≤ n) (hm : 0 < m) (hm2 : m < 2 ^ 200) : ∃ d v', f__law_draw [v, .int m] = .ok (.int d) [v', .int m] ∧ 0 ≤ d ∧ d < m ∧ Pot v' n := by
  obtain ⟨⟨a, b, c, rfl, h⟩, _⟩ := h
  have q1 : Nat.log2 40503 = 15 := by decide +kernel
  have q2 : Nat.log2 7 = 2 := by decide +kernel
  have k1 := n1 h hn
  by_cases ha : 0 < a
  · exact ⟨a % m, _, draw_a ha hm (divOk_lt hm hm2), Int.emod_nonneg _ (by omega), Int.emod_lt_of_pos _ hm, ⟨_, _, _, rfl, h.b0, h.b1, h.c0, by have := h.c1; omega⟩, hn⟩
  · refine ⟨_, _, draw_b ha hm (mulOk_lt ?_) (mulOk_lt ?_) (powOk3 ?_) (powOk2 ?_), Int.emod_nonneg _ (by omega), Int.emod_lt_of_pos _ hm, ⟨_, _, _, rfl, h.b0, h.b1, by have := h.c0; omega, by have := h.c1; omega⟩, hn⟩
    · show Nat.log2 40503 + _ < _; rw [q1]; omega
    · show Nat.log2 7 + _ < _; rw [q2]; omega
    · have := n2 h hn; omega
    · have := n3 (x := (b + 40503 * (c + 1)) ^ 3) h.c0 h.c1 hn; omega

end Law
set_option Elab.async false
set_option linter.all false
set_option maxRecDepth 100000
set_option maxHeartbeats 1000000
namespace Law
open PySem (Str)
open Tr Tr.Ev
abbrev LET : Str := "abcdefghijklmnopqrstuvwxyz"
structure WOk (x : Str) : Prop where
  l1 : 1 ≤ x.length
  l8 : x.length ≤ 8
  key : x ≠ ("key" : Str)
  abc : ∀ c ∈ x.cps.toList, c ∈ LET.cps.toList
theorem let_list : LET.cps.toList = (List.range 26).map (· + 97) := by decide +kernel
theorem let_ix {d : Int} (h0 : 0 ≤ d) (h1 : d < 26) : ∃ ch, ix (.str LET) (.int d) = some (.str ⟨#[ch]⟩) ∧ ch ∈ LET.cps.toList := by
  obtain ⟨n, rfl⟩ := Int.eq_ofNat_of_zero_le h0
  have hn : n < 26 := by omega
  refine ⟨n + 97, ?_, by rw [let_list]; exact List.mem_map.mpr ⟨n, List.mem_range.mpr hn, rfl⟩⟩
  show (atI LET.cps.toList (n : Int)).map _ = _
  rw [let_list]
  unfold atI ixN
  rw [if_pos (by omega), if_pos (by simp; omega)]
  simp [hn]
theorem abc_le {c : Nat} (h : c ∈ LET.cps.toList) : c < 0x110000 := by
  rw [let_list] at h
  obtain ⟨n, hn, rfl⟩ := List.mem_map.mp h
  have := List.mem_range.mp hn
  omega
theorem join0 : ∀ {ls : List Nat}, (Str.join "" (ls.map fun c => ⟨#[c]⟩)).cps.toList = ls
  | [] => by decide +kernel
  | [c] => rfl
  | c :: d :: ls => by
    have ih := join0 (ls := d :: ls)
    show ((⟨#[c]⟩ ++ ("" : Str) ++ Str.join "" ((d :: ls).map fun c => (⟨#[c]⟩ : Str))) : Str).cps.toList = _
    show ((#[c] ++ ("" : Str).cps) ++ (Str.join "" ((d :: ls).map fun c => (⟨#[c]⟩ : Str))).cps).toList = _
    rw [Array.toList_append, Array.toList_append, ih]
    rfl
theorem strs_map (ws : List Str) : Tr.allS (ws.map PV.str) = some ws := by
  induction ws with
  | nil => rfl
  | cons x ws ih => rw [List.map_cons, Tr.allS, ih]; rfl
theorem join_run {ls : List Nat} (h : ls.length ≤ 8) : ∃ x : Str, fJoin (.str "") (.lst true (ls.map fun c => .str ⟨#[c]⟩)) = some (.str x) ∧ x.cps.toList = ls := by
  refine ⟨Str.join "" (ls.map fun c => ⟨#[c]⟩), ?_, join0⟩
  have e : (ls.map fun c => PV.str ⟨#[c]⟩) = (ls.map fun c => (⟨#[c]⟩ : Str)).map PV.str := by rw [List.map_map]; rfl
  rw [e]
  unfold fJoin
  simp only [strs_map, Option.bind_some]
  rw [if_pos]
  have e1 : ((ls.map fun c => (⟨#[c]⟩ : Str)).map (·.length)) = ls.map fun _ => 1 := by rw [List.map_map]; rfl
  rw [e1]
  have e2 : (ls.map fun _ => 1).sum = ls.length := by
    clear h e e1
    induction ls with
    | nil => rfl
    | cons x l ih => rw [List.map_cons, List.sum_cons, ih, List.length_cons]; omega
  have e3 : ("" : Str).length = 0 := by decide +kernel
  rw [e2, e3]
  unfold big; omega
theorem len_of {x : Str} {l : List Nat} (h : x.cps.toList = l) : x.length = l.length := by
  show x.cps.size = _
  rw [← h]; simp
theorem fros_str (ws : List Str) : fros (ws.map PV.str) = true := by
  induction ws with
  | nil => rfl
  | cons x ws ih => rw [List.map_cons, fros, ih]; rfl
theorem dat_str (ws : List Str) : (ws.map PV.str).all (dat deep) = true := by
  rw [List.all_eq_true]
  intro x hx
  obtain ⟨y, _, rfl⟩ := List.mem_map.mp hx
  rfl
theorem in_strs {x : Str} {ws : List Str} {w : Bool} : cIn (.str x) (.lst w (ws.map .str)) = some (decide (x ∈ ws)) := by
  show (if (dat deep (.str x) && (ws.map PV.str).all (dat deep)) = true then some ((ws.map PV.str).any fun y => eqv y (.str x)) else none) = _
  rw [if_pos (by rw [dat_str]; rfl)]
  congr 1
  rw [Bool.eq_iff_iff, decide_eq_true_eq, List.any_eq_true]
  constructor
  · rintro ⟨y, hy, h⟩
    obtain ⟨z, hz, rfl⟩ := List.mem_map.mp hy
    have : z = x := by simpa [eqv] using h
    exact this ▸ hz
  · intro h
    exact ⟨_, List.mem_map.mpr ⟨x, h, rfl⟩, by simp [eqv]⟩
theorem ni_strs {x : Str} {ws : List Str} {w : Bool} : cNi (.str x) (.lst w (ws.map .str)) = some (!decide (x ∈ ws)) := by
  unfold cNi; rw [in_strs]; rfl
theorem ne_nil {ws : List Str} {w : Bool} : cNe (.lst w (ws.map .str)) (.lst true []) = some (!ws.isEmpty) := by
  unfold cNe
  have d1 : dat deep (.lst w (ws.map .str)) = true := by
    show (ws.map PV.str).all (dat 19) = true
    rw [List.all_eq_true]
    intro x hx
    obtain ⟨y, _, rfl⟩ := List.mem_map.mp hx
    rfl
  rw [d1]
  cases ws <;> rfl
/-- four words leave one of the eight -/
theorem sub_len : ∀ {l m : List Str}, l.Nodup → (∀ x ∈ l, x ∈ m) → l.length ≤ m.length
  | [], m, _, _ => Nat.zero_le _
  | x :: l, m, nd, h => by
    obtain ⟨h1, h2⟩ := List.nodup_cons.mp nd
    have hx := h x List.mem_cons_self
    have := sub_len (l := l) (m := m.erase x) h2 fun y hy => (List.mem_erase_of_ne (fun e => h1 (by rw [← e]; exact hy))).mpr (h y (List.mem_cons_of_mem _ hy))
    rw [List.length_erase_of_mem hx] at this
    have := List.length_pos_of_mem hx
    rw [List.length_cons]; omega

theorem add_ss {x y : Str} (h : x.length + y.length ≤ big) : bAdd (.str x) (.str y) = some (.str (x ++ y)) := by
  show (if x.length + y.length ≤ big then _ else _) = _
  rw [if_pos h]
theorem items_strs {ws : List Str} {w : Bool} : items (frz (.lst w (ws.map PV.str))) = some (ws.map PV.str) := by
  rw [frz]
  show some (frzs _) = _
  rw [frzs_of_fros (fros_str ws)]
/-- a letter -/
abbrev ch (c : Nat) : PV := .str ⟨#[c]⟩
def Lt (ls : List Nat) : Prop := ∀ c ∈ ls, c ∈ LET.cps.toList
theorem fros_ch (ls : List Nat) : fros (ls.map ch) = true := by
  rw [show ls.map ch = (ls.map fun c => (⟨#[c]⟩ : Str)).map PV.str by rw [List.map_map]; rfl]
  exact fros_str _
theorem sl_to {ls : List Nat} {w : Bool} {i : Int} (h0 : 0 ≤ i) (h1 : i ≤ ls.length) : sl (.lst w (ls.map ch)) none (some i) = some (.lst true ((ls.take i.toNat).map ch)) := by
  show (if fros (ls.map ch) = true then some (PV.lst true (cut (ls.map ch) none (some i))) else none) = _
  rw [if_pos (fros_ch ls)]
  have e1 : sIx ls.length ls.length (some i) = i.toNat := by
    show (if i < 0 then _ else min i.toNat ls.length) = _
    rw [if_neg (by omega)]; omega
  unfold cut
  rw [List.length_map, e1]
  show some (PV.lst true (List.take (i.toNat - 0) (List.drop 0 (ls.map ch)))) = _
  rw [List.drop_zero, Nat.sub_zero, ← List.map_take]
theorem sl_fr {ls : List Nat} {w : Bool} {i j : Int} (h0 : 0 ≤ i) (h1 : i ≤ j) (h2 : j ≤ ls.length) : sl (.lst w (ls.map ch)) (some i) (some j) = some (.lst true (((ls.drop i.toNat).take (j.toNat - i.toNat)).map ch)) := by
  show (if fros (ls.map ch) = true then some (PV.lst true (cut (ls.map ch) (some i) (some j))) else none) = _
  rw [if_pos (fros_ch ls)]
  have e1 : sIx ls.length 0 (some i) = i.toNat := by
    show (if i < 0 then _ else min i.toNat ls.length) = _
    rw [if_neg (by omega)]; omega
  have e2 : sIx ls.length ls.length (some j) = j.toNat := by
    show (if j < 0 then _ else min j.toNat ls.length) = _
    rw [if_neg (by omega)]; omega
  unfold cut
  rw [List.length_map, e1, e2, ← List.map_drop, ← List.map_take]
theorem add_l {ls ms : List Nat} (h : ls.length + ms.length ≤ big) : bAdd (.lst true (ls.map ch)) (.lst true (ms.map ch)) = some (.lst true ((ls ++ ms).map ch)) := by
  rw [List.map_append]
  show (if (fros (ls.map ch) && fros (ms.map ch) && decide ((ls.map ch).length + (ms.map ch).length ≤ big)) = true then _ else _) = _
  rw [if_pos (by rw [fros_ch, fros_ch, List.length_map, List.length_map]; simpa using h)]
/-- 'q' * 8 .. 'z' * 8 -/
def oct (c : Nat) : Str := ⟨(List.replicate 8 c).toArray⟩
abbrev OCT : List Nat := [113, 114, 115, 116, 117, 118, 119, 120, 121, 122]
theorem oct_run {c : Nat} (h : c ∈ OCT) : bMul (ch c) (.int 8) = some (.str (oct c)) := by
  have l : (⟨#[c]⟩ : Str).length = 1 := rfl
  show (if (decide ((0 : Int) ≤ 8) && decide ((8 : Int) ≤ 1000000) && decide ((⟨#[c]⟩ : Str).length * (8 : Int).toNat ≤ big)) = true then some (PV.str ⟨(List.replicate (8 : Int).toNat [c]).flatten.toArray⟩) else none) = _
  rw [if_pos (by rw [l]; decide +kernel)]
  rfl
structure Wrd (x : Str) : Prop where
  l1 : 1 ≤ x.length
  l8 : x.length ≤ 8
  abc : ∀ c ∈ x.cps.toList, c ∈ LET.cps.toList
theorem Wrd.ok {x : Str} (h : Wrd x) (k : x ≠ ("key" : Str)) : WOk x := ⟨h.l1, h.l8, k, h.abc⟩
theorem oct_ok {c : Nat} (h : c ∈ OCT) : Wrd (oct c) := by
  have l : (oct c).length = 8 := by rw [len_of (l := List.replicate 8 c) (by unfold oct; simp)]; simp
  refine ⟨by omega, by omega, fun z hz => ?_⟩
  have : z = c := by unfold oct at hz; simp at hz; exact hz
  subst this
  have : ∀ z ∈ OCT, z ∈ LET.cps.toList := by decide +kernel
  exact this z h
theorem oct_inj {c d : Nat} (h : oct c = oct d) : c = d := by
  have := congrArg (fun x : Str => x.cps.toList) h
  unfold oct at this
  simpa using this
theorem oct_key {c : Nat} : oct c ≠ ("key" : Str) := fun e => by
  have := congrArg Str.length e
  rw [len_of (l := List.replicate 8 c) (by unfold oct; simp)] at this
  revert this; rw [List.length_replicate]; decide +kernel
theorem oct_free {ws : List Str} (h : ws.length < 10) : ∃ c ∈ OCT, oct c ∉ ws := by
  apply Classical.byContradiction
  intro hn
  have all : ∀ c ∈ OCT, oct c ∈ ws := fun c hc => Classical.byContradiction fun q => hn ⟨c, hc, q⟩
  have nd : (OCT.map oct).Nodup := List.pairwise_map.mpr ((by decide : OCT.Nodup).imp fun h e => h (oct_inj e))
  have := sub_len nd fun x hx => by
    obtain ⟨c, hc, rfl⟩ := List.mem_map.mp hx
    exact all c hc
  simp at this
  omega
theorem word_join {ls : List Nat} (h1 : 1 ≤ ls.length) (h : ls.length ≤ 8) (hl : Lt ls) : ∃ x : Str, fJoin (.str "") (.lst true (ls.map ch)) = some (.str x) ∧ Wrd x := by
  obtain ⟨x, e, q⟩ := join_run h
  exact ⟨x, e, by rw [len_of q]; exact h1, by rw [len_of q]; exact h, by rw [q]; exact hl⟩
theorem range_get {n i : Nat} {x : PV} (h : ((List.range n).map fun i => PV.int (i : Nat))[i]? = some x) : i < n ∧ x = .int (i : Nat) := by
  rw [List.getElem?_map] at h
  rcases Nat.lt_or_ge i n with l | l
  · rw [List.getElem?_range l] at h
    cases h
    exact ⟨l, rfl⟩
  · rw [List.getElem?_eq_none (by simpa using l)] at h; cases h

end Law
set_option Elab.async false
set_option linter.all false
set_option maxRecDepth 100000
set_option maxHeartbeats 1000000
namespace Law
open PySem (Str)
open Tr Tr.Ev
theorem letters13 {p : PV} {n : Int} {m : Nat} {a1 a3 a4 a5 a6 a7 a8 a9 a10 a11 a12 a14 a15 : Option PV} (h : Pot p (n + m)) (hn : 0 ≤ n) :
    ∃ ls p', compL [13] (bN 13) tYes (eP2 ix (.nm 2) (.ev (eCall f__law_draw [(.nm 0), (.ev (eC (.int 26)))] []))) ((List.range m).map fun i => .int (i : Nat)) [some p, a1, some (.str LET), a3, a4, a5, a6, a7, a8, a9, a10, a11, a12, none, a14, a15] = .ok (ls.map ch) [some p', a1, some (.str LET), a3, a4, a5, a6, a7, a8, a9, a10, a11, a12, none, a14, a15] ∧ ls.length = m ∧ Lt ls ∧ Pot p' n := by
  obtain ⟨vs, ρ', e, p', rfl, ls, rfl, l, hl, h'⟩ := comp_run (own := [13]) (b := bN 13) (f := (eP2 ix (.nm 2) (.ev (eCall f__law_draw [(.nm 0), (.ev (eC (.int 26)))] [])))) (xs := (List.range m).map fun i => PV.int (i : Nat)) (ρ := [some p, a1, some (.str LET), a3, a4, a5, a6, a7, a8, a9, a10, a11, a12, none, a14, a15])
    (fun i ρ ws => ∃ p, ρ = [some p, a1, some (.str LET), a3, a4, a5, a6, a7, a8, a9, a10, a11, a12, none, a14, a15] ∧ ∃ ls : List Nat, ws = ls.map ch ∧ ls.length = i ∧ Lt ls ∧ Pot p (n + (m - i)))
    ⟨p, rfl, [], rfl, rfl, (fun _ h => by cases h), h.less (by omega) (by omega)⟩ fun i x ρ ws hx hp => by
      obtain ⟨p, rfl, ls, rfl, rfl, hl, hp⟩ := hp
      obtain ⟨hi, rfl⟩ := range_get hx
      obtain ⟨d, p2, e1, d0, d1, h2⟩ := draw_ok (n := n + (m - ls.length - 1)) (m := 26) (hp.less (by omega) (by omega)) (by omega) (by decide) (by decide)
      obtain ⟨c, e2, hc⟩ := let_ix d0 d1
      have ow := hp.own
      refine ⟨_, ch c, [some p2, a1, some (.str LET), a3, a4, a5, a6, a7, a8, a9, a10, a11, a12, some (.int (ls.length : Nat)), a14, a15], rfl, ?_, p2, ?_, ls ++ [c], by simp, by simp, ?_, h2.less (by push_cast; omega) (by push_cast; omega)⟩
      · simp -implicitDefEqProofs [e1, e2, ow]
      · simp
      · intro z hz
        rcases List.mem_append.mp hz with hz | hz
        · exact hl z hz
        · rw [List.mem_singleton.mp hz]; exact hc
  rw [List.length_map, List.length_range] at l h'
  exact ⟨ls, p', e, l, hl, h'.less hn (by omega)⟩
theorem letters9 {p : PV} {n : Int} {m : Nat} {a1 a3 a4 a5 a6 a7 a8 a13 a10 a11 a12 a14 a15 : Option PV} (h : Pot p (n + m)) (hn : 0 ≤ n) :
    ∃ ls p', compL [9] (bN 9) tYes (eP2 ix (.nm 2) (.ev (eCall f__law_draw [(.nm 0), (.ev (eC (.int 26)))] []))) ((List.range m).map fun i => .int (i : Nat)) [some p, a1, some (.str LET), a3, a4, a5, a6, a7, a8, none, a10, a11, a12, a13, a14, a15] = .ok (ls.map ch) [some p', a1, some (.str LET), a3, a4, a5, a6, a7, a8, none, a10, a11, a12, a13, a14, a15] ∧ ls.length = m ∧ Lt ls ∧ Pot p' n := by
  obtain ⟨vs, ρ', e, p', rfl, ls, rfl, l, hl, h'⟩ := comp_run (own := [9]) (b := bN 9) (f := (eP2 ix (.nm 2) (.ev (eCall f__law_draw [(.nm 0), (.ev (eC (.int 26)))] [])))) (xs := (List.range m).map fun i => PV.int (i : Nat)) (ρ := [some p, a1, some (.str LET), a3, a4, a5, a6, a7, a8, none, a10, a11, a12, a13, a14, a15])
    (fun i ρ ws => ∃ p, ρ = [some p, a1, some (.str LET), a3, a4, a5, a6, a7, a8, none, a10, a11, a12, a13, a14, a15] ∧ ∃ ls : List Nat, ws = ls.map ch ∧ ls.length = i ∧ Lt ls ∧ Pot p (n + (m - i)))
    ⟨p, rfl, [], rfl, rfl, (fun _ h => by cases h), h.less (by omega) (by omega)⟩ fun i x ρ ws hx hp => by
      obtain ⟨p, rfl, ls, rfl, rfl, hl, hp⟩ := hp
      obtain ⟨hi, rfl⟩ := range_get hx
      obtain ⟨d, p2, e1, d0, d1, h2⟩ := draw_ok (n := n + (m - ls.length - 1)) (m := 26) (hp.less (by omega) (by omega)) (by omega) (by decide) (by decide)
      obtain ⟨c, e2, hc⟩ := let_ix d0 d1
      have ow := hp.own
      refine ⟨_, ch c, [some p2, a1, some (.str LET), a3, a4, a5, a6, a7, a8, some (.int (ls.length : Nat)), a10, a11, a12, a13, a14, a15], rfl, ?_, p2, ?_, ls ++ [c], by simp, by simp, ?_, h2.less (by push_cast; omega) (by push_cast; omega)⟩
      · simp -implicitDefEqProofs [e1, e2, ow]
      · simp
      · intro z hz
        rcases List.mem_append.mp hz with hz | hz
        · exact hl z hz
        · rw [List.mem_singleton.mp hz]; exact hc
  rw [List.length_map, List.length_range] at l h'
  exact ⟨ls, p', e, l, hl, h'.less hn (by omega)⟩

/-- the slots of names, within its loop -/
abbrev EN (p mv : PV) (ws : List Str) (wy sz : Int) (st : List Nat) (sp fi : Int) (k o10 o11 o12 : Option PV) : Env :=
  [some p, some mv, some (.str LET), some (.lst true (ws.map .str)), some (.int wy), some (.int sz), some (.lst true (st.map ch)), some (.int sp), some (.int fi), k, o10, o11, o12, none, none, none]
theorem mod_b {x m : Int} (hm : 0 < m) : 0 ≤ x % m ∧ x % m < m := ⟨Int.emod_nonneg _ (by omega), Int.emod_lt_of_pos _ hm⟩
/-- word, as its first two lines make it -/
theorem word1 {p mv : PV} {ws : List Str} {wy sz sp fi kk : Int} {st : List Nat} {o10 o11 o12 : Option PV} (hs : st.length = 8) (hl : Lt st) (s0 : 0 ≤ sp) (s1 : sp < sz) (s2 : sz ≤ 8) :
    ∃ ls, (sSeq (sSet 10 (eP2 bAdd (.ev (eSl (.nm 6) none (some (eNm 7)))) (.ev (eLst (aCons (eP2 ix (.nm 2) (.ev (eP2 bMod (.ev (eP1 fInt (.ev (eP2 bAdd (.nm 8) (.nm 9))))) (.ev (eC (.int 26)))))) aNil)))))
      (sSet 10 (eP2 bAdd (.nm 10) (.ev (eSl (.nm 6) (some (eP2 bAdd (.nm 7) (.ev (eC (.int 1))))) (some (eNm 5))))))) (EN p mv ws wy sz st sp fi (some (.int kk)) o10 o11 o12) = .nx (EN p mv ws wy sz st sp fi (some (.int kk)) (some (.lst true (ls.map ch))) o11 o12) ∧ 1 ≤ ls.length ∧ ls.length ≤ 8 ∧ Lt ls := by
  obtain ⟨m0, m1⟩ := mod_b (x := fi + kk) (m := 26) (by decide)
  obtain ⟨c, e1, hc⟩ := let_ix m0 m1
  have e2 := sl_to (ls := st) (w := true) s0 (by omega)
  have e3 := sl_fr (ls := st) (w := true) (i := sp + 1) (j := sz) (by omega) (by omega) (by omega)
  have a1 : bAdd (.lst true ((st.take sp.toNat).map ch)) (.lst true [ch c]) = some (.lst true ((st.take sp.toNat ++ [c]).map ch)) := add_l (ls := st.take sp.toNat) (ms := [c]) (by simp; unfold big; omega)
  have a2 := add_l (ls := st.take sp.toNat ++ [c]) (ms := (st.drop (sp + 1).toNat).take (sz.toNat - (sp + 1).toNat)) (by simp; unfold big; omega)
  have md : bMod (.int (fi + kk)) (.int 26) = some (.int ((fi + kk) % 26)) := mod_ii (by decide)
  generalize (fi + kk) % 26 = z at md e1
  refine ⟨st.take sp.toNat ++ [c] ++ (st.drop (sp + 1).toNat).take (sz.toNat - (sp + 1).toNat), ?_, ?_, ?_, ?_⟩
  · obtain ⟨A, hA⟩ : ∃ A, A = (st.take sp.toNat).map ch := ⟨_, rfl⟩
    obtain ⟨B, hB⟩ : ∃ B, B = (st.take sp.toNat ++ [c]).map ch := ⟨_, rfl⟩
    obtain ⟨C, hC⟩ : ∃ C, C = ((st.drop (sp + 1).toNat).take (sz.toNat - (sp + 1).toNat)).map ch := ⟨_, rfl⟩
    obtain ⟨G, hG⟩ : ∃ G, G = (st.take sp.toNat ++ [c] ++ (st.drop (sp + 1).toNat).take (sz.toNat - (sp + 1).toNat)).map ch := ⟨_, rfl⟩
    rw [← hA] at e2 a1
    rw [← hB] at a1 a2
    rw [← hC] at e3 a2
    rw [← hG] at a2 ⊢
    simp -implicitDefEqProofs [EN, md, e1, e2, e3, a1, a2]
  · simp; omega
  · simp; omega
  · intro z hz
    rcases List.mem_append.mp hz with hz | hz
    · rcases List.mem_append.mp hz with hz | hz
      · exact hl z (List.mem_of_mem_take hz)
      · rw [List.mem_singleton.mp hz]; exact hc
    · exact hl z (List.mem_of_mem_drop (List.mem_of_mem_take hz))
/-- if way == 1 -/
theorem word2 {p mv : PV} {ws : List Str} {wy sz sp fi kk : Int} {st ls : List Nat} {o11 o12 : Option PV} (hs : st.length = 8) (hl : Lt st) (l1 : 1 ≤ ls.length) (l8 : ls.length ≤ 8) (hl2 : Lt ls) :
    ∃ ls', (sIf (tPV2 cEq (.nm 4) (.ev (eC (.int 1)))) (sSet 10 (eSl (.nm 6) none (some (eP2 bAdd (.ev (eC (.int 1))) (.ev (eP2 bMod (.ev (eP1 fInt (.ev (eP2 bAdd (.nm 7) (.nm 9))))) (.ev (eC (.int 8))))))))) sNx) (EN p mv ws wy sz st sp fi (some (.int kk)) (some (.lst true (ls.map ch))) o11 o12) =
      .nx (EN p mv ws wy sz st sp fi (some (.int kk)) (some (.lst true (ls'.map ch))) o11 o12) ∧ 1 ≤ ls'.length ∧ ls'.length ≤ 8 ∧ Lt ls' := by
  by_cases q : wy = 1
  · obtain ⟨m0, m1⟩ := mod_b (x := sp + kk) (m := 8) (by decide)
    have md : bMod (.int (sp + kk)) (.int 8) = some (.int ((sp + kk) % 8)) := mod_ii (by decide)
    have e2 := sl_to (ls := st) (w := true) (i := 1 + (sp + kk) % 8) (by omega) (by omega)
    generalize (sp + kk) % 8 = z at md e2 m0 m1
    refine ⟨st.take (1 + z).toNat, ?_, by rw [List.length_take]; omega, by rw [List.length_take]; omega, fun x hx => hl x (List.mem_of_mem_take hx)⟩
    simp -implicitDefEqProofs [EN, q, eq_ii, md, e2]
  · refine ⟨ls, ?_, l1, l8, hl2⟩
    simp -implicitDefEqProofs [EN, q, eq_ii]
/-- if way == 2 -/
theorem word3 {p mv : PV} {ws : List Str} {wy sz sp fi kk n : Int} {st ls : List Nat} {o11 o12 : Option PV} (h : Pot p (n + 9)) (hn : 0 ≤ n) (l1 : 1 ≤ ls.length) (l8 : ls.length ≤ 8) (hl2 : Lt ls) :
    ∃ ls' p' o11', (sIf (tPV2 cEq (.nm 4) (.ev (eC (.int 2)))) (sSeq (sSet 11 (eP2 bAdd (.ev (eC (.int 1))) (.ev (eCall f__law_draw [(.nm 0), (.ev (eC (.int 8)))] []))))
      (sSet 10 (eComp [13] (iRange1 (eNm 11)) (bN 13) tYes (eP2 ix (.nm 2) (.ev (eCall f__law_draw [(.nm 0), (.ev (eC (.int 26)))] [])))))) sNx) (EN p mv ws wy sz st sp fi (some (.int kk)) (some (.lst true (ls.map ch))) o11 o12) =
      .nx (EN p' mv ws wy sz st sp fi (some (.int kk)) (some (.lst true (ls'.map ch))) o11' o12) ∧ 1 ≤ ls'.length ∧ ls'.length ≤ 8 ∧ Lt ls' ∧ Pot p' n := by
  by_cases q : wy = 2
  · obtain ⟨d, p1, e1, d0, d1, h1⟩ := draw_ok (n := n + 8) (m := 8) (h.less (by omega) (by omega)) (by omega) (by decide) (by decide)
    have ow := h.own
    obtain ⟨ls', p2, e2, l2, hl3, h2⟩ := letters13 (p := p1) (n := n) (m := (1 + d).toNat) (a1 := some mv) (a3 := some (.lst true (ws.map .str))) (a4 := some (.int wy)) (a5 := some (.int sz)) (a6 := some (.lst true (st.map ch))) (a7 := some (.int sp)) (a8 := some (.int fi)) (a9 := some (.int kk)) (a10 := some (.lst true (ls.map ch))) (a11 := some (.int (1 + d))) (a12 := o12) (a14 := none) (a15 := none) (h1.less (by omega) (by omega)) hn
    have hr : iRange1 (eNm 11) (EN p1 mv ws wy sz st sp fi (some (.int kk)) (some (.lst true (ls.map ch))) (some (.int (1 + d))) o12) = .ok ((List.range (1 + d).toNat).map fun i => .int (i : Nat)) (EN p1 mv ws wy sz st sp fi (some (.int kk)) (some (.lst true (ls.map ch))) (some (.int (1 + d))) o12) := range1_run (n := 1 + d) (by simp -implicitDefEqProofs) (by omega) (by omega)
    have e3 := eComp_run (own := [13]) hr e2
    refine ⟨ls', p2, some (.int (1 + d)), ?_, by omega, by omega, hl3, h2⟩
    rw [sIf_eq, show (tPV2 cEq (.nm 4) (.ev (eC (.int 2)))) (EN p mv ws wy sz st sp fi (some (.int kk)) (some (.lst true (ls.map ch))) o11 o12) = .ok true (EN p mv ws wy sz st sp fi (some (.int kk)) (some (.lst true (ls.map ch))) o11 o12) by simp -implicitDefEqProofs [q, eq_ii], siR_ok, if_pos rfl, sSeq_eq,
      show sSet 11 (eP2 bAdd (.ev (eC (.int 1))) (.ev (eCall f__law_draw [(.nm 0), (.ev (eC (.int 8)))] []))) (EN p mv ws wy sz st sp fi (some (.int kk)) (some (.lst true (ls.map ch))) o11 o12) = .nx (EN p1 mv ws wy sz st sp fi (some (.int kk)) (some (.lst true (ls.map ch))) (some (.int (1 + d))) o12) by simp -implicitDefEqProofs [e1, ow], at_nx, sSet_eq]
    rw [show eComp [13] _ _ _ _ _ = _ from e3]
    simp -implicitDefEqProofs
  · refine ⟨ls, p, o11, ?_, l1, l8, hl2, h.less hn (by omega)⟩
    simp -implicitDefEqProofs [EN, q, eq_ii]

end Law
set_option Elab.async false
set_option linter.all false
set_option maxRecDepth 100000
set_option maxHeartbeats 1000000
namespace Law
open PySem (Str)
open Tr Tr.Ev
theorem iS_run {f : EF} {ρ ρ1 : Env} {z : Str} (h : f ρ = .ok (.str z) ρ1) : iS f ρ = .ok (z.cps.toList.map ch) ρ1 := by
  unfold iS; rw [h]; rfl
theorem oct_list : ("qrstuvwxyz" : Str).cps.toList = OCT := by decide +kernel
theorem key_len : ("key" : Str).length = 3 := by decide +kernel
theorem add_strs {xs ys : List Str} (h : xs.length + ys.length ≤ big) : bAdd (.lst true (xs.map PV.str)) (.lst true (ys.map PV.str)) = some (.lst true ((xs ++ ys).map PV.str)) := by
  rw [List.map_append]
  show (if (fros (xs.map PV.str) && fros (ys.map PV.str) && decide ((xs.map PV.str).length + (ys.map PV.str).length ≤ big)) = true then _ else _) = _
  rw [if_pos (by rw [fros_str, fros_str, List.length_map, List.length_map]; simpa using h)]
theorem octs {ρ : Env} {a14 : Option PV} {p a1 a2 a3 a4 a5 a6 a7 a8 a9 a10 a11 a12 a13 a15 : Option PV} :
    eComp [14] (iS (eC (.str "qrstuvwxyz"))) (bN 14) tYes (eP2 bMul (.nm 14) (.ev (eC (.int 8)))) [p, a1, a2, a3, a4, a5, a6, a7, a8, a9, a10, a11, a12, a13, none, a15] = .ok (.lst true ((OCT.map oct).map PV.str)) [p, a1, a2, a3, a4, a5, a6, a7, a8, a9, a10, a11, a12, a13, none, a15] := by
  have e := comp_pure (own := [14]) (b := bN 14) (t := tYes) (f := eP2 bMul (.nm 14) (.ev (eC (.int 8)))) (ρ := [p, a1, a2, a3, a4, a5, a6, a7, a8, a9, a10, a11, a12, a13, none, a15]) ch (fun _ => true) (fun c => PV.str (oct c)) (l := OCT) fun c hc => by
    refine ⟨_, _, rfl, rfl, (fun h => by cases h), fun _ => ⟨[p, a1, a2, a3, a4, a5, a6, a7, a8, a9, a10, a11, a12, a13, some (ch c), a15], ?_, by simp⟩⟩
    simp -implicitDefEqProofs [oct_run hc]
  have hr : iS (eC (.str "qrstuvwxyz")) [p, a1, a2, a3, a4, a5, a6, a7, a8, a9, a10, a11, a12, a13, none, a15] = .ok (OCT.map ch) [p, a1, a2, a3, a4, a5, a6, a7, a8, a9, a10, a11, a12, a13, none, a15] := by
    rw [iS_run (f := eC (.str "qrstuvwxyz")) (z := "qrstuvwxyz") (eC_eq), oct_list]
  have e2 := eComp_run (own := [14]) hr (ρ2 := [p, a1, a2, a3, a4, a5, a6, a7, a8, a9, a10, a11, a12, a13, none, a15]) e
  rw [e2]
  simp -implicitDefEqProofs
/-- what is added to found -/
theorem word4 {p mv : PV} {ws : List Str} {wy sz sp fi : Int} {st ls : List Nat} {k o11 o12 : Option PV} (hw : ws.length < 10) (l1 : 1 ≤ ls.length) (l8 : ls.length ≤ 8) (hl2 : Lt ls) :
    ∃ y o12', (sSeq (sSet 12 (eP2 bAdd (.ev (eLst (aCons (eP1 (fJoin (.str "")) (.nm 10)) aNil))) (.ev (eComp [14] (iS (eC (.str "qrstuvwxyz"))) (bN 14) tYes (eP2 bMul (.nm 14) (.ev (eC (.int 8))))))))
      (sSeq (sSet 12 (eCompN [15] 12 (bN 15) (tAnd (tPV2 cNe (.nm 15) (.ev (eC (.str "key")))) (tPV2 cNi (.nm 15) (.nm 3))) (eNm 15)))
      (sApp 3 (eP2 ix (.nm 12) (.ev (eC (.int 0))))))) (EN p mv ws wy sz st sp fi k (some (.lst true (ls.map ch))) o11 o12) = .nx (EN p mv (ws ++ [y]) wy sz st sp fi k (some (.lst true (ls.map ch))) o11 o12') ∧ WOk y ∧ y ∉ ws := by
  obtain ⟨x, ex, hx⟩ := word_join l1 l8 hl2
  obtain ⟨L, hL⟩ : ∃ L : List Str, L = [x] ++ OCT.map oct := ⟨_, rfl⟩
  have hLw : ∀ y ∈ L, Wrd y := fun y hy => by
    rw [hL] at hy
    rcases List.mem_append.mp hy with hy | hy
    · rw [List.mem_singleton.mp hy]; exact hx
    · obtain ⟨c, hc, rfl⟩ := List.mem_map.mp hy
      exact oct_ok hc
  have s1 : bAdd (.lst true [.str x]) (.lst true ((OCT.map oct).map PV.str)) = some (.lst true (L.map PV.str)) := by
    rw [hL]; exact add_strs (xs := [x]) (ys := OCT.map oct) (by simp; unfold big; omega)
  have e1 : (sSet 12 (eP2 bAdd (.ev (eLst (aCons (eP1 (fJoin (.str "")) (.nm 10)) aNil))) (.ev (eComp [14] (iS (eC (.str "qrstuvwxyz"))) (bN 14) tYes (eP2 bMul (.nm 14) (.ev (eC (.int 8)))))))) (EN p mv ws wy sz st sp fi k (some (.lst true (ls.map ch))) o11 o12) = .nx (EN p mv ws wy sz st sp fi k (some (.lst true (ls.map ch))) o11 (some (.lst true (L.map PV.str)))) := by
    rw [sSet_eq, eP2_eq, go_ev, show eLst (aCons (eP1 (fJoin (.str "")) (.nm 10)) aNil) (EN p mv ws wy sz st sp fi k (some (.lst true (ls.map ch))) o11 o12) = .ok (.lst true [.str x]) (EN p mv ws wy sz st sp fi k (some (.lst true (ls.map ch))) o11 o12) by simp -implicitDefEqProofs [ex], gE_ok, o2_ok, go_ev, octs (ρ := []) (a14 := none)]
    generalize (OCT.map oct).map PV.str = OS at s1 ⊢
    simp -implicitDefEqProofs [s1]
  have e2 := comp_pure (own := [15]) (b := bN 15) (t := (tAnd (tPV2 cNe (.nm 15) (.ev (eC (.str "key")))) (tPV2 cNi (.nm 15) (.nm 3)))) (f := eNm 15) (ρ := [some p, some mv, some (.str LET), some (.lst true (ws.map .str)), some (.int wy), some (.int sz), some (.lst true (st.map ch)), some (.int sp), some (.int fi), k, some (.lst true (ls.map ch)), o11, none, none, none, none]) PV.str (fun y => !decide (y = ("key" : Str)) && !decide (y ∈ ws)) PV.str (l := L) fun y hy => by
    refine ⟨[some p, some mv, some (.str LET), some (.lst true (ws.map .str)), some (.int wy), some (.int sz), some (.lst true (st.map ch)), some (.int sp), some (.int fi), k, some (.lst true (ls.map ch)), o11, none, none, none, some (.str y)], [some p, some mv, some (.str LET), some (.lst true (ws.map .str)), some (.int wy), some (.int sz), some (.lst true (st.map ch)), some (.int sp), some (.int fi), k, some (.lst true (ls.map ch)), o11, none, none, none, some (.str y)], rfl, ?_, fun _ => by simp, fun _ => ⟨[some p, some mv, some (.str LET), some (.lst true (ws.map .str)), some (.int wy), some (.int sz), some (.lst true (st.map ch)), some (.int sp), some (.int fi), k, some (.lst true (ls.map ch)), o11, none, none, none, some (.str y)], ?_, by simp⟩⟩
    · by_cases q : y = ("key" : Str)
      · subst q; simp -implicitDefEqProofs [ne_ss]
      · simp -implicitDefEqProofs [ne_ss, ni_strs, q]
    · simp -implicitDefEqProofs
  have e3 := eCompN_own (own := [15]) (i := 12) (ρ := EN p mv ws wy sz st sp fi k (some (.lst true (ls.map ch))) o11 (some (.lst true (L.map PV.str)))) (v := .lst true (L.map PV.str)) rfl rfl fro_lt (fros_str L) e2
  cases eL : L.filter (fun y => !decide (y = ("key" : Str)) && !decide (y ∈ ws)) with
  | nil =>
    obtain ⟨c, hc, nc⟩ := oct_free hw
    have : oct c ∈ L.filter (fun y => !decide (y = ("key" : Str)) && !decide (y ∈ ws)) := List.mem_filter.mpr ⟨by rw [hL]; exact List.mem_append_right _ (List.mem_map.mpr ⟨c, hc, rfl⟩), by simp [oct_key, nc]⟩
    rw [eL] at this; cases this
  | cons y ys =>
    have hy : y ∈ L.filter (fun y => !decide (y = ("key" : Str)) && !decide (y ∈ ws)) := by rw [eL]; exact List.mem_cons_self
    obtain ⟨hy1, hy2⟩ := List.mem_filter.mp hy
    have hy3 : y ≠ ("key" : Str) ∧ y ∉ ws := by simpa using hy2
    rw [eL] at e3
    refine ⟨y, some (.lst true ((y :: ys).map PV.str)), ?_, (hLw y hy1).ok hy3.1, hy3.2⟩
    rw [sSeq_eq, e1, at_nx, sSeq_eq, sSet_eq, show eCompN _ _ _ _ _ _ = _ from e3]
    have hb : ws.length < big := by unfold big; omega
    simp -implicitDefEqProofs [hb]

end Law
set_option Elab.async false
set_option linter.all false
set_option maxRecDepth 100000
set_option maxHeartbeats 1000000
namespace Law
open PySem (Str)
open Tr Tr.Ev
/-- a turn of the loop -/
def NB : SF := (sSeq (sSet 10 (eP2 bAdd (.ev (eSl (.nm 6) none (some (eNm 7)))) (.ev (eLst (aCons (eP2 ix (.nm 2) (.ev (eP2 bMod (.ev (eP1 fInt (.ev (eP2 bAdd (.nm 8) (.nm 9))))) (.ev (eC (.int 26)))))) aNil)))))
    (sSeq (sSet 10 (eP2 bAdd (.nm 10) (.ev (eSl (.nm 6) (some (eP2 bAdd (.nm 7) (.ev (eC (.int 1))))) (some (eNm 5))))))
    (sSeq (sIf (tPV2 cEq (.nm 4) (.ev (eC (.int 1)))) (sSet 10 (eSl (.nm 6) none (some (eP2 bAdd (.ev (eC (.int 1))) (.ev (eP2 bMod (.ev (eP1 fInt (.ev (eP2 bAdd (.nm 7) (.nm 9))))) (.ev (eC (.int 8))))))))) sNx)
    (sSeq (sIf (tPV2 cEq (.nm 4) (.ev (eC (.int 2)))) (sSeq (sSet 11 (eP2 bAdd (.ev (eC (.int 1))) (.ev (eCall f__law_draw [(.nm 0), (.ev (eC (.int 8)))] []))))
    (sSet 10 (eComp [13] (iRange1 (eNm 11)) (bN 13) tYes (eP2 ix (.nm 2) (.ev (eCall f__law_draw [(.nm 0), (.ev (eC (.int 26)))] [])))))) sNx)
    (sSeq (sSet 12 (eP2 bAdd (.ev (eLst (aCons (eP1 (fJoin (.str "")) (.nm 10)) aNil))) (.ev (eComp [14] (iS (eC (.str "qrstuvwxyz"))) (bN 14) tYes (eP2 bMul (.nm 14) (.ev (eC (.int 8))))))))
    (sSeq (sSet 12 (eCompN [15] 12 (bN 15) (tAnd (tPV2 cNe (.nm 15) (.ev (eC (.str "key")))) (tPV2 cNi (.nm 15) (.nm 3))) (eNm 15)))
    (sApp 3 (eP2 ix (.nm 12) (.ev (eC (.int 0)))))))))))
theorem seq_nx {s u : SF} {ρ ρ1 : Env} {r : SR} (h : s ρ = .nx ρ1) (h2 : u ρ1 = r) : sSeq s u ρ = r := by rw [sSeq_eq, h, at_nx, h2]
theorem seq_split {s u : SF} {ρ : Env} {ρ1 : Env} (h : sSeq s u ρ = .nx ρ1) : ∃ ρ2, s ρ = .nx ρ2 ∧ u ρ2 = .nx ρ1 := by
  rw [sSeq_eq] at h
  cases e : s ρ with
  | nx ρ2 => rw [e, at_nx] at h; exact ⟨ρ2, rfl, h⟩
  | _ => rw [e] at h; cases h
theorem turn_ok {p mv : PV} {ws : List Str} {wy sz sp fi kk n : Int} {st : List Nat} {o10 o11 o12 : Option PV} (h : Pot p (n + 9)) (hn : 0 ≤ n) (hw : ws.length < 10) (hs : st.length = 8) (hl : Lt st) (s0 : 0 ≤ sp) (s1 : sp < sz) (s2 : sz ≤ 8) :
    ∃ y p' o10' o11' o12', NB (EN p mv ws wy sz st sp fi (some (.int kk)) o10 o11 o12) = .nx (EN p' mv (ws ++ [y]) wy sz st sp fi (some (.int kk)) o10' o11' o12') ∧ WOk y ∧ y ∉ ws ∧ Pot p' n := by
  obtain ⟨l1, e1, a1, b1, c1⟩ := word1 (p := p) (mv := mv) (ws := ws) (wy := wy) (fi := fi) (kk := kk) (o10 := o10) (o11 := o11) (o12 := o12) hs hl s0 s1 s2
  obtain ⟨l2, e2, a2, b2, c2⟩ := word2 (p := p) (mv := mv) (ws := ws) (wy := wy) (sz := sz) (sp := sp) (fi := fi) (kk := kk) (o11 := o11) (o12 := o12) hs hl a1 b1 c1
  obtain ⟨l3, p', o11', e3, a3, b3, c3, h3⟩ := word3 (mv := mv) (ws := ws) (wy := wy) (sz := sz) (st := st) (sp := sp) (fi := fi) (kk := kk) (o11 := o11) (o12 := o12) h hn a2 b2 c2
  obtain ⟨y, o12', e4, hy, ny⟩ := word4 (p := p') (mv := mv) (ws := ws) (wy := wy) (sz := sz) (sp := sp) (fi := fi) (st := st) (k := some (.int kk)) (o11 := o11') (o12 := o12) hw a3 b3 c3
  obtain ⟨ρ2, f1, f2⟩ := seq_split e1
  exact ⟨y, p', _, _, _, seq_nx f1 (seq_nx f2 (seq_nx e2 (seq_nx e3 e4))), hy, ny, h3⟩
theorem names_ok {p : PV} {n m : Int} (h : Pot p (n + 100)) (hn : 0 ≤ n) (hm : 0 ≤ m) (hm2 : m < 9) :
    ∃ (ws : List Str) (p' : PV), f__law_names [p, .int m] = .ok (.tup (ws.map .str)) [p', .int m] ∧ ws.length = m.toNat ∧ (∀ x ∈ ws, WOk x) ∧ ws.Nodup ∧ Pot p' n := by
  obtain ⟨wy, p1, e1, _, _, h1⟩ := draw_ok (n := n + 99) (m := 3) (h.less (by omega) (by omega)) (by omega) (by decide) (by decide)
  obtain ⟨sz, p2, e2, z0, z1, h2⟩ := draw_ok (n := n + 98) (m := 8) (h1.less (by omega) (by omega)) (by omega) (by decide) (by decide)
  have ow := h.own
  have ow1 := h1.own
  have ow2 := h2.own
  obtain ⟨st, p3, e3, hs, hl, h3⟩ := letters9 (p := p2) (n := n + 90) (m := 8) (a1 := some (.int m)) (a3 := some (.lst true [])) (a4 := some (.int wy)) (a5 := some (.int (1 + sz))) (a6 := none) (a7 := none) (a8 := none) (a10 := none) (a11 := none) (a12 := none) (a13 := none) (a14 := none) (a15 := none) (h2.less (by omega) (by omega)) (by omega)
  obtain ⟨sp, p4, e4, s0, s1, h4⟩ := draw_ok (n := n + 89) (m := 1 + sz) (h3.less (by omega) (by omega)) (by omega) (by omega) (by omega)
  obtain ⟨fi, p5, e5, _, _, h5⟩ := draw_ok (n := n + 88) (m := 26) (h4.less (by omega) (by omega)) (by omega) (by decide) (by decide)
  have ow3 := h3.own
  have ow4 := h4.own
  have ow5 := h5.own
  have hr : iRange1 (eC (.int 8)) [some p2, some (.int m), some (.str LET), some (.lst true []), some (.int wy), some (.int (1 + sz)), none, none, none, none, none, none, none, none, none, none] = .ok ((List.range 8).map fun i => .int (i : Nat)) [some p2, some (.int m), some (.str LET), some (.lst true []), some (.int wy), some (.int (1 + sz)), none, none, none, none, none, none, none, none, none, none] := range1_run (n := 8) rfl (by decide) (by decide)
  have e6 := eComp_run (own := [9]) hr e3
  obtain ⟨ρ', e7, ws, p6, k, o10, o11, o12, rfl, l, hw, nd, h6⟩ := loop_run (b := bN 9) (s := NB) (xs := (List.range m.toNat).map fun i => PV.int (i : Nat)) (ρ := EN p5 (.int m) [] wy (1 + sz) st sp fi none none none none)
    (fun i ρ => ∃ (ws : List Str) (p : PV) (k o10 o11 o12 : Option PV), ρ = EN p (.int m) ws wy (1 + sz) st sp fi k o10 o11 o12 ∧ ws.length = i ∧ (∀ x ∈ ws, WOk x) ∧ ws.Nodup ∧ Pot p (n + 9 * (m - i)))
    ⟨[], p5, none, none, none, none, rfl, rfl, (fun _ h => by cases h), List.nodup_nil, h5.less (by omega) (by omega)⟩ fun i x ρ hx hp => by
      obtain ⟨ws, p, k, o10, o11, o12, rfl, rfl, hw, nd, hp⟩ := hp
      obtain ⟨hi, rfl⟩ := range_get hx
      have hi' : (ws.length : Int) + 1 ≤ m := by omega
      obtain ⟨y, p', o10', o11', o12', e, hy, ny, h'⟩ := turn_ok (mv := .int m) (wy := wy) (fi := fi) (kk := (ws.length : Nat)) (n := n + 9 * (m - ws.length - 1)) (ws := ws) (o10 := o10) (o11 := o11) (o12 := o12) (hp.less (by omega) (by omega)) (by omega) (by omega) hs hl s0 s1 (by omega)
      refine ⟨_, rfl, .inl ⟨_, e, ws ++ [y], p', _, _, _, _, rfl, by simp, ?_, ?_, h'.less (by push_cast; omega) (by push_cast; omega)⟩⟩
      · intro z hz
        rcases List.mem_append.mp hz with hz | hz
        · exact hw z hz
        · rw [List.mem_singleton.mp hz]; exact hy
      · rw [List.nodup_append]
        exact ⟨nd, by simp, fun a ha b hb e => ny (by rw [List.mem_singleton.mp hb] at e; exact e ▸ ha)⟩
  rw [List.length_map, List.length_range] at l h6
  refine ⟨ws, p6, ?_, l, hw, nd, h6.less hn (by omega)⟩
  have hr2 : iRange1 (eNm 1) (EN p5 (.int m) [] wy (1 + sz) st sp fi none none none none) = .ok ((List.range m.toNat).map fun i => PV.int (i : Nat)) (EN p5 (.int m) [] wy (1 + sz) st sp fi none none none none) := range1_run (n := m) (by simp -implicitDefEqProofs) hm (by omega)
  have e8 := sFor_run hr2 e7
  unfold NB at e8
  simp only [f__law_names, b__law_names]
  rw [mk_eq rfl]
  simp -implicitDefEqProofs only [List.map_cons, List.map_nil, List.length_cons, List.length_nil, List.cons_append, List.nil_append, List.replicate]
  rw [seq_nx (ρ1 := [some p, some (.int m), some (.str LET), some (.lst true []), none, none, none, none, none, none, none, none, none, none, none, none]) (by simp -implicitDefEqProofs) rfl,
    seq_nx (ρ1 := [some p2, some (.int m), some (.str LET), some (.lst true []), some (.int wy), some (.int (1 + sz)), none, none, none, none, none, none, none, none, none, none]) (by simp -implicitDefEqProofs [e1, e2, ow, ow1]) rfl,
    seq_nx (ρ1 := [some p3, some (.int m), some (.str LET), some (.lst true []), some (.int wy), some (.int (1 + sz)), some (.lst true (st.map ch)), none, none, none, none, none, none, none, none, none]) (by rw [sSet_eq, e6]; simp -implicitDefEqProofs) rfl,
    seq_nx (ρ1 := EN p5 (.int m) [] wy (1 + sz) st sp fi none none none none) (by simp -implicitDefEqProofs [e4, e5, ow3, ow4]) rfl]
  rw [show sSeq (sFor (iRange1 (eNm 1)) (bN 9) _) _ (EN p5 (.int m) [] wy (1 + sz) st sp fi none none none none) = _ from seq_nx e8 rfl]
  have ft : fTuple (.lst true (ws.map .str)) = some (.tup (ws.map .str)) := by
    show (if fros (ws.map PV.str) = true then _ else _) = _
    rw [if_pos (fros_str ws)]
  simp -implicitDefEqProofs [ft, h6.own]

end Law
set_option Elab.async false
set_option linter.all false
set_option maxRecDepth 100000
set_option maxHeartbeats 1000000
namespace Law
open PySem (Str)
open Tr Tr.Ev
abbrev TOP : Int := 1000000000000000000000000000000
theorem TOPv : TOP = 1000000000000000000000000000000 := rfl
abbrev KY : Str := "key"
structure HOk (ws : List Str) : Prop where
  w : ∀ x ∈ ws, WOk x ∨ x = ("key" : Str)
  nd : ws.Nodup
  l1 : 1 ≤ ws.length
  l7 : ws.length ≤ 7
theorem slt_to {ws : List Str} {i : Int} (h0 : 0 ≤ i) (h1 : i ≤ ws.length) : sl (.tup (ws.map .str)) none (some i) = some (.tup ((ws.take i.toNat).map .str)) := by
  show (if fros (ws.map PV.str) = true then some (PV.tup (cut (ws.map PV.str) none (some i))) else none) = _
  rw [if_pos (fros_str ws)]
  have e1 : sIx ws.length ws.length (some i) = i.toNat := by
    show (if i < 0 then _ else min i.toNat ws.length) = _
    rw [if_neg (by omega)]; omega
  unfold cut
  rw [List.length_map, e1]
  show some (PV.tup (List.take (i.toNat - 0) (List.drop 0 (ws.map PV.str)))) = _
  rw [List.drop_zero, Nat.sub_zero, ← List.map_take]
theorem slt_fr {ws : List Str} {i : Int} (h0 : 0 ≤ i) (h1 : i ≤ ws.length) : sl (.tup (ws.map .str)) (some i) none = some (.tup ((ws.drop i.toNat).map .str)) := by
  show (if fros (ws.map PV.str) = true then some (PV.tup (cut (ws.map PV.str) (some i) none)) else none) = _
  rw [if_pos (fros_str ws)]
  have e1 : sIx ws.length 0 (some i) = i.toNat := by
    show (if i < 0 then _ else min i.toNat ws.length) = _
    rw [if_neg (by omega)]; omega
  unfold cut
  rw [List.length_map, e1]
  show some (PV.tup (List.take (ws.length - i.toNat) (List.drop i.toNat (ws.map PV.str)))) = _
  rw [← List.map_drop, List.take_of_length_le (by simp)]
theorem addt {xs ys : List Str} (h : xs.length + ys.length ≤ big) : bAdd (.tup (xs.map PV.str)) (.tup (ys.map PV.str)) = some (.tup ((xs ++ ys).map PV.str)) := by
  rw [List.map_append]
  show (if (fros (xs.map PV.str) && fros (ys.map PV.str) && decide ((xs.map PV.str).length + (ys.map PV.str).length ≤ big)) = true then _ else _) = _
  rw [if_pos (by rw [fros_str, fros_str, List.length_map, List.length_map]; simpa using h)]
def ten (d : Nat) : Str := ⟨(49 :: List.replicate d 48).toArray⟩
theorem ten_int : ∀ d, d < 30 → PySem.intText? (ten d) = some ((10 : Int) ^ d) := by decide +kernel
theorem ten_run {d : Int} (h0 : 0 ≤ d) (h1 : d < 30) : ∃ x, bMul (.str "0") (.int d) = some (.str x) ∧ bAdd (.str "1") (.str x) = some (.str (ten d.toNat)) := by
  obtain ⟨n, rfl⟩ := Int.eq_ofNat_of_zero_le h0
  have hn : n < 30 := by omega
  have c1 : ∀ n, n < 30 → (decide ((0 : Int) ≤ (n : Nat)) && decide (((n : Nat) : Int) ≤ 1000000) && decide (("0" : Str).length * ((n : Nat) : Int).toNat ≤ big)) = true := by decide +kernel
  have c2 : ∀ n, n < 30 → ("1" ++ (⟨(List.replicate ((n : Nat) : Int).toNat ("0" : Str).cps.toList).flatten.toArray⟩ : Str) : Str) = ten n := by decide +kernel
  have c3 : ∀ n, n < 30 → ("1" : Str).length + (⟨(List.replicate ((n : Nat) : Int).toNat ("0" : Str).cps.toList).flatten.toArray⟩ : Str).length ≤ big := by decide +kernel
  refine ⟨⟨(List.replicate ((n : Nat) : Int).toNat ("0" : Str).cps.toList).flatten.toArray⟩, ?_, ?_⟩
  · show (if (decide ((0 : Int) ≤ (n : Nat)) && decide (((n : Nat) : Int) ≤ 1000000) && decide (("0" : Str).length * ((n : Nat) : Int).toNat ≤ big)) = true then _ else _) = _
    rw [if_pos (c1 n hn)]
  · rw [add_ss (c3 n hn), c2 n hn]; rfl
theorem ten_fint {d : Nat} (h : d < 30) : fIntS (.str (ten d)) = some (.int ((10 : Int) ^ d)) := by
  have l : ∀ d, d < 30 → (ten d).length ≤ 640 := by decide +kernel
  show (if decide ((ten d).length ≤ 640) = true then (PySem.intText? (ten d)).map PV.int else none) = _
  rw [if_pos (by simpa using l d h), ten_int d h]
  rfl
theorem ten_le {d : Nat} (h : d < 30) : (0 : Int) < 10 ^ d ∧ (10 : Int) ^ d ≤ 100000000000000000000000000000 := by
  have : ∀ d, d < 30 → (0 : Int) < 10 ^ d ∧ (10 : Int) ^ d ≤ 100000000000000000000000000000 := by decide +kernel
  exact this d h
theorem number_ok {p : PV} {n : Int} (h : Pot p (n + 3)) (hn : 0 ≤ n) : ∃ (i : Int) (p' : PV), f__law_number [p] = .ok (.int i) [p'] ∧ 0 ≤ i ∧ i < TOP ∧ Pot p' n := by
  obtain ⟨wy, p1, e1, w0, w1, h1⟩ := draw_ok (n := n + 2) (m := 6) (h.less (by omega) (by omega)) (by omega) (by decide) (by decide)
  obtain ⟨sm, p2, e2, s0, s1, h2⟩ := draw_ok (n := n + 1) (m := 40) (h1.less (by omega) (by omega)) (by omega) (by decide) (by decide)
  have ow := h.own
  have ow1 := h1.own
  have ow2 := h2.own
  by_cases q : wy < 3
  · refine ⟨sm, p2, ?_, s0, by unfold TOP; omega, h2.less hn (by omega)⟩
    simp -implicitDefEqProofs [f__law_number, b__law_number, mk_eq, e1, e2, ow, ow1, ow2, q]
  · by_cases q3 : wy = 3
    · refine ⟨1000000000000000000000000000000 - 1 - sm, p2, ?_, by omega, by have := TOPv; omega, h2.less hn (by omega)⟩
      simp -implicitDefEqProofs [f__law_number, b__law_number, mk_eq, e1, e2, ow, ow1, ow2, q, q3, eq_ii, e30]
    · by_cases q4 : wy = 4
      · obtain ⟨i, p3, e3, i0, i1, h3⟩ := draw_ok (n := n) (m := TOP) (h2.less (by omega) (by omega)) (by omega) (by decide) (by decide)
        have ow3 := h3.own
        refine ⟨i, p3, ?_, i0, i1, h3⟩
        simp -implicitDefEqProofs [f__law_number, b__law_number, mk_eq, e1, e2, e3, ow, ow1, ow2, ow3, q, q3, q4, eq_ii, e30]
      · obtain ⟨d, p3, e3, d0, d1, h3⟩ := draw_ok (n := n) (m := 30) (h2.less (by omega) (by omega)) (by omega) (by decide) (by decide)
        have ow3 := h3.own
        obtain ⟨x, x1, x2⟩ := ten_run d0 d1
        have x3 := ten_fint (d := d.toNat) (by omega)
        obtain ⟨t0, t1⟩ := ten_le (d := d.toNat) (by omega)
        generalize (10 : Int) ^ d.toNat = t at x3 t0 t1
        refine ⟨t + sm, p3, ?_, by omega, by have := TOPv; omega, h3⟩
        simp -implicitDefEqProofs [f__law_number, b__law_number, mk_eq, e1, e2, e3, ow, ow1, ow2, ow3, q, q3, q4, eq_ii, x1, x2, x3]

theorem fros_ints (is : List Int) : fros (is.map PV.int) = true := by
  induction is with
  | nil => rfl
  | cons x is ih => rw [List.map_cons, fros, ih]; rfl
theorem add_ints {xs ys : List Int} (h : xs.length + ys.length ≤ big) : bAdd (.lst true (xs.map PV.int)) (.lst true (ys.map PV.int)) = some (.lst true ((xs ++ ys).map PV.int)) := by
  rw [List.map_append]
  show (if (fros (xs.map PV.int) && fros (ys.map PV.int) && decide ((xs.map PV.int).length + (ys.map PV.int).length ≤ big)) = true then _ else _) = _
  rw [if_pos (by rw [fros_ints, fros_ints, List.length_map, List.length_map]; simpa using h)]
def NumOk (is : List Int) : Prop := ∀ i ∈ is, 0 ≤ i ∧ i < TOP
theorem pool_ok {p : PV} {n : Int} (h : Pot p (n + 9)) (hn : 0 ≤ n) : ∃ (is : List Int) (p' : PV), f__law_pool [p] = .ok (.lst true (is.map .int)) [p'] ∧ is.length = 9 ∧ NumOk is ∧ Pot p' n := by
  let body : SF := (sSeq (sSet 3 (eCall f__law_number [(.nm 0)] []))
    (sSet 1 (eP2 bAdd (.nm 1) (.ev (eLst (aCons (eP2 fMax2 (.ev (eC (.int 0))) (.ev (eP2 bSub (.nm 3) (.ev (eC (.int 1)))))) (aCons (eNm 3) (aCons (eP2 fMin2 (.ev (eP2 bSub (.ev (eP2 bPow (.ev (eC (.int 10))) (.ev (eC (.int 30))))) (.ev (eC (.int 1))))) (.ev (eP2 bAdd (.nm 3) (.ev (eC (.int 1)))))) aNil))))))))
  obtain ⟨ρ', e, is, p', o2, o3, rfl, l, hi, h'⟩ := loop_run (b := bN 2) (s := body) (xs := (List.range 3).map fun i => PV.int (i : Nat)) (ρ := [some p, some (.lst true []), none, none])
    (fun i ρ => ∃ (is : List Int) (p : PV) (o2 o3 : Option PV), ρ = [some p, some (.lst true (is.map .int)), o2, o3] ∧ is.length = 3 * i ∧ NumOk is ∧ Pot p (n + 3 * (3 - i)))
    ⟨[], p, none, none, rfl, rfl, (fun _ h => by cases h), h.less (by omega) (by omega)⟩ fun i x ρ hx hp => by
      obtain ⟨is, p, o2, o3, rfl, l, hi, hp⟩ := hp
      obtain ⟨hlt, rfl⟩ := range_get hx
      obtain ⟨z, p2, e1, z0, z1, h2⟩ := number_ok (n := n + 3 * (2 - i)) (hp.less (by omega) (by omega)) (by omega)
      have ow := hp.own
      have ow2 := h2.own
      obtain ⟨a, ha⟩ : ∃ a : Int, a = (if z - 1 > 0 then z - 1 else 0) := ⟨_, rfl⟩
      obtain ⟨b, hb⟩ : ∃ b : Int, b = (if z + 1 < 999999999999999999999999999999 then z + 1 else 999999999999999999999999999999) := ⟨_, rfl⟩
      have m1 : fMax2 (.int 0) (.int (z - 1)) = some (.int a) := by rw [ha]; rfl
      have m2 : fMin2 (.int 999999999999999999999999999999) (.int (z + 1)) = some (.int b) := by rw [hb]; rfl
      have s1 : bAdd (.lst true (is.map PV.int)) (.lst true [.int a, .int z, .int b]) = some (.lst true ((is ++ [a, z, b]).map PV.int)) := add_ints (ys := [a, z, b]) (by simp; unfold big; omega)
      refine ⟨_, rfl, .inl ⟨[some p2, some (.lst true ((is ++ [a, z, b]).map PV.int)), some (.int (i : Nat)), some (.int z)], ?_, is ++ [a, z, b], p2, _, _, rfl, by simp; omega, ?_, h2.less (by push_cast; omega) (by push_cast; omega)⟩⟩
      · generalize (is ++ [a, z, b]).map PV.int = G at s1 ⊢
        simp -implicitDefEqProofs [body, e1, ow, ow2, e30, m1, m2, s1, -max_ii, -min_ii]
      · intro y hy
        have := TOPv
        rcases List.mem_append.mp hy with hy | hy
        · exact hi y hy
        · simp only [List.mem_cons, List.not_mem_nil, or_false] at hy
          rcases hy with rfl | rfl | rfl
          · rw [ha]; split <;> omega
          · exact ⟨z0, z1⟩
          · rw [hb]; split <;> omega
  rw [List.length_map, List.length_range] at l h'
  refine ⟨is, p', ?_, by omega, hi, h'.less hn (by omega)⟩
  have hr : iRange1 (eC (.int 3)) [some p, some (.lst true []), none, none] = .ok ((List.range 3).map fun i => PV.int (i : Nat)) [some p, some (.lst true []), none, none] := range1_run (n := 3) rfl (by decide) (by decide)
  have e2 := sFor_run hr e
  simp only [body] at e2
  simp only [f__law_pool, b__law_pool]
  rw [mk_eq rfl]
  simp -implicitDefEqProofs only [List.map_cons, List.map_nil, List.length_cons, List.length_nil, List.cons_append, List.nil_append, List.replicate]
  rw [seq_nx (ρ1 := [some p, some (.lst true []), none, none]) (by simp -implicitDefEqProofs) rfl, seq_nx e2 rfl]
  simp -implicitDefEqProofs [h'.own]
/-! cells -/
def cv : Option Int → PV
  | none => .non
  | some i => .int i
def COk (c : Option Int) : Prop := ∀ i, c = some i → 0 ≤ i ∧ i < TOP
theorem at_list {α : Type} {xs : List α} {i : Int} (h0 : 0 ≤ i) (h1 : i < xs.length) : ∃ x, xs[i.toNat]? = some x ∧ atI xs i = some x := by
  have hl : i.toNat < xs.length := by omega
  refine ⟨xs[i.toNat], List.getElem?_eq_getElem hl, ?_⟩
  unfold atI ixN
  rw [if_pos h0, if_pos h1, Option.bind_some, List.getElem?_eq_getElem hl]
theorem dat_cv {n : Nat} {c : Option Int} : dat n (cv c) = true := by
  cases c <;> cases n <;> rfl
theorem bls_map (bs : List Bool) : Tr.bls (bs.map PV.bl) = some bs := by
  induction bs with
  | nil => rfl
  | cons x bs ih => rw [List.map_cons, Tr.bls, ih]; rfl
theorem all_run {w : Bool} (bs : List Bool) : fAll (.lst w (bs.map .bl)) = some (.bl (bs.all id)) := by
  show (Tr.bls (bs.map PV.bl)).map _ = _
  rw [bls_map]; rfl
theorem filter_t {α : Type} (l : List α) : (l.filter fun _ => true) = l := List.filter_eq_self.mpr fun _ _ => rfl
@[simp] theorem isa_int {i : Int} : isA .int (.int i) = some true := rfl
@[simp] theorem isa_bi {i : Int} : isA .bool (.int i) = some false := rfl
@[simp] theorem isa_ss {x : Str} : isA .str (.str x) = some true := rfl
@[simp] theorem isa_tt {xs : List PV} : isA .tuple (.tup xs) = some true := rfl
theorem whole_ok {i : Int} : f_is_whole [.int i] = .ok (.bl true) [.int i] := by
  simp only [f_is_whole, b_is_whole]
  rw [mk_eq rfl]
  simp -implicitDefEqProofs [eAnd]
theorem num_ok {i : Int} (h0 : 0 ≤ i) (h1 : i < TOP) : f_is_number [.int i] = .ok (.bl true) [.int i] := by
  have h1' : i < 1000000000000000000000000000000 := h1
  simp only [f_is_number, b_is_number]
  rw [mk_eq rfl]
  simp -implicitDefEqProofs [eAnd, whole_ok, h0, h1']
theorem icell_ok {c : Option Int} (h : COk c) : f_is_cell [cv c] = .ok (.bl true) [cv c] := by
  simp only [f_is_cell, b_is_cell]
  rw [mk_eq rfl]
  cases c with
  | none => simp -implicitDefEqProofs [eOr, cv]
  | some i =>
    obtain ⟨h0, h1⟩ := h i rfl
    simp -implicitDefEqProofs [eOr, cv, num_ok h0 h1]
theorem name_ok {x : Str} (h : WOk x) : f_is_name [.str x] = .ok (.bl true) [.str x] := by
  have key := h.key
  have l1 : (1 : Int) ≤ x.length := by have := h.l1; omega
  have l8 : (x.length : Int) ≤ 8 := by have := h.l8; omega
  have core := comp_pure (own := [1]) (b := bN 1) (t := tYes) (f := eT (tPV2 cIn (.nm 1) (.ev (eC (.str LET))))) (ρ := [some (.str x), none]) (fun c : Nat => PV.str ⟨#[c]⟩) (fun _ => true) (fun _ => PV.bl true) (l := x.cps.toList) fun c hc => by
    refine ⟨[some (.str x), some (.str ⟨#[c]⟩)], _, rfl, rfl, (fun h => by cases h), fun _ => ⟨[some (.str x), some (.str ⟨#[c]⟩)], ?_, by simp⟩⟩
    have e : cIn (.str ⟨#[c]⟩) (.str LET) = some true := by
      show (if (⟨#[c]⟩ : Str).length = 1 then some (decide ((⟨#[c]⟩ : Str).cps.getD 0 0 ∈ LET.cps.toList)) else none) = _
      rw [if_pos (show (⟨#[c]⟩ : Str).length = 1 from rfl)]
      have := h.abc c hc
      simpa using this
    simp -implicitDefEqProofs [e]
  have e1 : iS (eNm 0) [some (.str x), none] = .ok (x.cps.toList.map fun c => .str ⟨#[c]⟩) [some (.str x), none] := by
    unfold iS
    simp -implicitDefEqProofs
  have e2 := eComp_run (own := [1]) e1 core
  have e3 : ((x.cps.toList.filter fun _ => true).map fun _ => PV.bl true) = (x.cps.toList.map fun _ => true).map PV.bl := by rw [filter_t, List.map_map]; rfl
  rw [e3] at e2
  have e4 : (x.cps.toList.map fun _ => true).all id = true := by simp
  generalize (x.cps.toList.map fun _ => true) = bs at e2 e4
  simp only [f_is_name, b_is_name]
  rw [mk_eq rfl]
  simp -implicitDefEqProofs [l1, l8, eq_ss, key, e2, all_run, e4]

theorem name_key : f_is_name [.str KY] = .ok (.bl false) [.str KY] := by
  have l : (KY : Str).length = 3 := by decide +kernel
  simp only [f_is_name, b_is_name]
  rw [mk_eq rfl]
  simp -implicitDefEqProofs [l, eq_ss]
theorem item_ok {x : Str} (h : WOk x ∨ x = ("key" : Str)) : f_is_item [.str x] = .ok (.bl true) [.str x] := by
  simp only [f_is_item, b_is_item]
  rw [mk_eq rfl]
  rcases h with h | h
  · simp -implicitDefEqProofs [eOr, name_ok h]
  · have := name_key
    subst h
    simp -implicitDefEqProofs [eOr, eAnd, this, eq_ss]
theorem dcount_nd {xs : List Str} (h : xs.Nodup) : ∀ i, i ≤ xs.length → dcount xs i = i
  | 0, _ => rfl
  | i + 1, hi => by
    rw [dcount, dcount_nd h i (by omega)]
    rw [if_neg]
    intro q
    obtain ⟨y, hy, e⟩ := List.any_eq_true.mp q
    have e' : y = xs[i] := by
      rw [List.getD_eq_getElem?_getD, List.getElem?_eq_getElem (by omega)] at e
      simpa using e
    obtain ⟨j, hj, ej⟩ := List.mem_iff_getElem.mp hy
    have hj' : j < i := by rw [List.length_take] at hj; omega
    rw [List.getElem_take] at ej
    exact List.pairwise_iff_getElem.mp h j i (by omega) (by omega) hj' (ej.trans e')
theorem lenset_ok {ws : List Str} (nd : ws.Nodup) (hl : ws.length ≤ 60) : fLenSetS (.tup (ws.map .str)) = some (.int (ws.length : Nat)) := by
  show ((Tr.allS (ws.map PV.str)).bind fun ss => if decide (ss.length ≤ 60) = true then some (PV.int (dcount ss ss.length : Nat)) else none) = _
  rw [strs_map, Option.bind_some, if_pos (by simpa using hl), dcount_nd nd _ (Nat.le_refl _)]
theorem distinct_ok {ws : List Str} (nd : ws.Nodup) (hl : ws.length ≤ 60) : f_are_distinct [.tup (ws.map .str)] = .ok (.bl true) [.tup (ws.map .str)] := by
  simp only [f_are_distinct, b_are_distinct]
  rw [mk_eq rfl]
  simp -implicitDefEqProofs [lenset_ok nd hl, eq_ii]
theorem addf {xs ys : List PV} (h1 : fros xs = true) (h2 : fros ys = true) (h : xs.length + ys.length ≤ big) : bAdd (.tup xs) (.tup ys) = some (.tup (xs ++ ys)) := by
  show (if (fros xs && fros ys && decide (xs.length + ys.length ≤ big)) = true then _ else _) = _
  rw [if_pos (by rw [h1, h2]; simpa using h)]
theorem pick_any {xs : List PV} {b : Bool} {d : Int} (hf : fros xs = true) (h0 : 0 ≤ d) (h1 : d < xs.length) : ∃ x ∈ xs, ix (.lst b xs) (.int d) = some x ∧ fro x = true := by
  obtain ⟨x, hx, hat⟩ := at_list h0 h1
  have hm := List.mem_of_getElem? hx
  have fx : fro x = true := by rw [fros_eq, List.all_eq_true] at hf; exact hf x hm
  refine ⟨x, hm, ?_, fx⟩
  show (atI _ _).bind onlyFro = _
  rw [hat]; exact onlyFro_t fx
theorem fros_app {xs ys : List PV} (h1 : fros xs = true) (h2 : fros ys = true) : fros (xs ++ ys) = true := by
  rw [fros_eq] at *
  rw [List.all_append, h1, h2]; rfl
/-- no whole number -/
def nw : PV → Bool
  | .bl _ => true | .non => true | .str _ => true
  | .lst false [] => true
  | .tup xs => fros xs
  | .dct false [] [] => true
  | _ => false
theorem nw_fro {v : PV} (h : nw v = true) : fro v = true := by
  unfold nw at h
  split at h <;> first | rfl | (rw [fro_tup]; exact h) | (cases h; done) | simp
theorem whole_no {v : PV} (h : nw v = true) : f_is_whole [v] = .ok (.bl false) [v] := by
  have fr := nw_fro h
  unfold nw at h
  simp only [f_is_whole, b_is_whole]
  rw [mk_eq rfl]
  split at h <;> first | (simp -implicitDefEqProofs [eAnd, isA]; done) | (cases h; done)
/-- what is no text is no item -/
theorem odd_of {v : PV} (h : isA .str v = some false) (fv : fro v = true) : f_is_item [v] = .ok (.bl false) [v] := by
  have e : f_is_name [v] = .ok (.bl false) [v] := by
    simp only [f_is_name, b_is_name]
    rw [mk_eq rfl]
    simp -implicitDefEqProofs [h, fv]
  simp only [f_is_item, b_is_item]
  rw [mk_eq rfl]
  simp -implicitDefEqProofs [eOr, eAnd, h, e, fv]
theorem odd_non : f_is_item [.non] = .ok (.bl false) [.non] := odd_of rfl rfl
theorem odd_int : f_is_item [.int 1] = .ok (.bl false) [.int 1] := odd_of rfl rfl
theorem odd_bl : f_is_item [.bl true] = .ok (.bl false) [.bl true] := odd_of rfl rfl
theorem odd_tup {l : List PV} (h : fros l = true) : f_is_item [.tup l] = .ok (.bl false) [.tup l] := odd_of rfl h
theorem odd_lst {l : List PV} (h : fros l = true) : f_is_item [.lst false l] = .ok (.bl false) [.lst false l] := odd_of rfl (by simpa using h)
theorem dcount_full {xs : List Str} : ∀ i, i ≤ xs.length → dcount xs i = i → (xs.take i).Nodup
  | 0, _, _ => by simp
  | i + 1, hi, h => by
    rw [dcount] at h
    have le := dcount_le xs i
    split at h
    · omega
    · rename_i ne
      have nd := dcount_full (xs := xs) i (by omega) (by omega)
      have hi' : i < xs.length := hi
      rw [List.take_succ, List.getElem?_eq_getElem (l := xs) (i := i) hi']
      rw [List.nodup_append]
      refine ⟨nd, by simp, fun a ha b hb e => ne ?_⟩
      simp at hb
      rw [List.any_eq_true]
      refine ⟨a, ha, ?_⟩
      rw [List.getD_eq_getElem?_getD, List.getElem?_eq_getElem (l := xs) (i := i) hi', e, hb]
      simp
theorem distinct_no {ws : List Str} (nd : ¬ ws.Nodup) (hl : ws.length ≤ 60) : f_are_distinct [.tup (ws.map .str)] = .ok (.bl false) [.tup (ws.map .str)] := by
  have lt : ¬ dcount ws ws.length = ws.length := fun e => nd (by have := dcount_full ws.length (Nat.le_refl _) e; rwa [List.take_length] at this)
  have e : fLenSetS (.tup (ws.map .str)) = some (.int (dcount ws ws.length : Nat)) := by
    show ((Tr.allS (ws.map PV.str)).bind fun ss => if decide (ss.length ≤ 60) = true then some (PV.int (dcount ss ss.length : Nat)) else none) = _
    rw [strs_map, Option.bind_some, if_pos (by simpa using hl)]
  have ne : ¬ ((dcount ws ws.length : Nat) : Int) = (ws.length : Nat) := by omega
  simp only [f_are_distinct, b_are_distinct]
  rw [mk_eq rfl]
  simp -implicitDefEqProofs [e, eq_ii, ne]
theorem in_tstrs {x : Str} {ws : List Str} : cIn (.str x) (.tup (ws.map .str)) = some (decide (x ∈ ws)) := by
  show (if (dat deep (.str x) && (ws.map PV.str).all (dat deep)) = true then some ((ws.map PV.str).any fun y => eqv y (.str x)) else none) = _
  rw [if_pos (by rw [dat_str]; rfl)]
  congr 1
  rw [Bool.eq_iff_iff, decide_eq_true_eq, List.any_eq_true]
  constructor
  · rintro ⟨y, hy, h⟩
    obtain ⟨z, hz, rfl⟩ := List.mem_map.mp hy
    have : z = x := by simpa [eqv] using h
    exact this ▸ hz
  · intro h
    exact ⟨_, List.mem_map.mpr ⟨x, h, rfl⟩, by simp [eqv]⟩
theorem ni_tstrs {x : Str} {ws : List Str} : cNi (.str x) (.tup (ws.map .str)) = some (!decide (x ∈ ws)) := by
  unfold cNi; rw [in_tstrs]; rfl
structure BadC (v : PV) : Prop where
  ok : (∃ i, v = .int i ∧ (i < 0 ∨ TOP ≤ i)) ∨ (nw v = true ∧ v ≠ .non)
theorem BadC.fro {v : PV} (h : BadC v) : fro v = true := by
  rcases h.ok with ⟨i, rfl, _⟩ | ⟨h, _⟩
  · rfl
  · exact nw_fro h
theorem icell_bad {v : PV} (h : BadC v) : f_is_cell [v] = .ok (.bl false) [v] := by
  have fr := h.fro
  rcases h.ok with ⟨i, rfl, hi⟩ | ⟨hn, ne⟩
  · have en : f_is_number [.int i] = .ok (.bl false) [.int i] := by
      simp only [f_is_number, b_is_number]
      rw [mk_eq rfl]
      by_cases q : 0 ≤ i
      · have q2 : ¬ i < 1000000000000000000000000000000 := by have := TOPv; omega
        simp -implicitDefEqProofs [eAnd, whole_ok, q, q2]
      · simp -implicitDefEqProofs [eAnd, whole_ok, q]
    simp only [f_is_cell, b_is_cell]
    rw [mk_eq rfl]
    simp -implicitDefEqProofs [eOr, en]
  · have ew := whole_no hn
    have en : f_is_number [v] = .ok (.bl false) [v] := by
      simp only [f_is_number, b_is_number]
      rw [mk_eq rfl]
      simp -implicitDefEqProofs [eAnd, ew, fr]
    have e0 : cIsN v = some false := by
      unfold nw at hn
      split at hn <;> first | rfl | (exact absurd rfl ne) | (cases hn; done)
    simp only [f_is_cell, b_is_cell]
    rw [mk_eq rfl]
    simp -implicitDefEqProofs [eOr, en, e0, fr]
end Law
set_option Elab.async false
set_option linter.all false
set_option maxRecDepth 100000
set_option maxHeartbeats 1000000
/-! k14: what is asked of grains, shown items, tests: f says b of v. -/
namespace Law
open PySem (Str)
open Tr Tr.Ev
/-- f says b of v -/
structure Sy (f : FF) (v : PV) (b : Bool) : Prop where
  e : f [v] = .ok (.bl b) [v]
  fr : fro v = true
theorem slot_set {ρ : Env} {j : Nat} {v : PV} (h : j < ρ.length) : slot (ρ.set j (some v)) j = some v := by
  unfold slot; rw [List.getElem?_set_self h]; rfl
theorem set_same {ρ : Env} {j : Nat} (h : ρ[j]? = some none) : ρ.set j none = ρ := by
  refine List.ext_getElem? fun k => ?_
  by_cases e : j = k
  · subst e
    have hl := (List.getElem?_eq_some_iff.mp h).1
    rw [List.getElem?_set_self hl, h]
  · rw [List.getElem?_set_ne e]
theorem call_says {f : FF} {v : PV} {b : Bool} (h : Sy f v b) {j : Nat} {ρ : Env} (hs : slot ρ j = some v) : eCall f [.nm j] [] ρ = .ok (.bl b) ρ := by
  have e := h.e
  have fr := h.fr
  simp -implicitDefEqProofs [hs, e, fr]
theorem says_comp {f : FF} {zs : List (PV × Bool)} (h : ∀ z ∈ zs, Sy f z.1 z.2) {i j : Nat} {ρ : Env} (hi : slot ρ i = some (.tup (zs.map (·.1)))) (hj : ρ[j]? = some none) :
    eCompN [j] i (bN j) tYes (eCall f [.nm j] []) ρ = .ok (.lst true ((zs.map (·.2)).map .bl)) ρ := by
  have hl := (List.getElem?_eq_some_iff.mp hj).1
  have fx : fros (zs.map (·.1)) = true := by
    rw [fros_eq, List.all_eq_true]
    intro x hx
    obtain ⟨z, hz, rfl⟩ := List.mem_map.mp hx
    exact (h z hz).fr
  have w : wipeE [j] ρ = ρ := by simp [set_same hj]
  have c : compL [j] (bN j) tYes (eCall f [.nm j] []) (zs.map (·.1)) (wipeE [j] ρ) = .ok ((zs.filter fun _ => true).map fun z => PV.bl z.2) ρ := by
    rw [w]
    refine comp_pure (fun z : PV × Bool => z.1) (fun _ => true) (fun z => PV.bl z.2) fun z hz => ⟨ρ.set j (some z.1), ρ.set j (some z.1), rfl, rfl, (fun e => by cases e), fun _ => ⟨_, call_says (h z hz) (slot_set hl), ?_⟩⟩
    rw [wipe_cons, wipe_nil, List.set_set, set_same hj]
  have e := eCompN_fro (own := [j]) (i := i) (ρ := ρ) (v := .tup (zs.map (·.1))) hi rfl (by simp [fx]) fx c
  have sn : slot ρ j = none := by unfold slot; rw [hj]; rfl
  rw [e, filter_t, List.map_map]
  simp [sn]
theorem fros_zs {f : FF} {zs : List (PV × Bool)} (h : ∀ z ∈ zs, Sy f z.1 z.2) : fros (zs.map (·.1)) = true := by
  rw [fros_eq, List.all_eq_true]
  intro x hx
  obtain ⟨z, hz, rfl⟩ := List.mem_map.mp hx
  exact (h z hz).fr
/-! grains -/
theorem grain_ok {g : Int} (h1 : 1 ≤ g) (h2 : g ≤ 1000000000) : Sy f_is_grain (.int g) true := ⟨by
  simp only [f_is_grain, b_is_grain]
  rw [mk_eq rfl]
  simp -implicitDefEqProofs [eAnd, whole_ok, h1, h2], rfl⟩
theorem grain_no {g : Int} (h : g < 1 ∨ 1000000000 < g) : Sy f_is_grain (.int g) false := ⟨by
  simp only [f_is_grain, b_is_grain]
  rw [mk_eq rfl]
  by_cases q : 1 ≤ g
  · have q2 : ¬ g ≤ 1000000000 := by omega
    simp -implicitDefEqProofs [eAnd, whole_ok, q, q2]
  · simp -implicitDefEqProofs [eAnd, whole_ok, q], rfl⟩
theorem grain_nw {v : PV} (h : nw v = true) : Sy f_is_grain v false := ⟨by
  have e := whole_no h
  have fr := nw_fro h
  simp only [f_is_grain, b_is_grain]
  rw [mk_eq rfl]
  simp -implicitDefEqProofs [eAnd, e, fr], nw_fro h⟩
/-! items shown -/
abbrev Sh := Str × Int
def sh (p : Sh) : PV := .tup [.str p.1, .int p.2]
structure ShOk (p : Sh) : Prop where
  i : WOk p.1 ∨ p.1 = ("key" : Str)
  g1 : 1 ≤ p.2
  g9 : p.2 ≤ 1000000000
  k : p.1 = ("key" : Str) → p.2 = 1
theorem fro_sh {p : Sh} : fro (sh p) = true := rfl
theorem fros_shs (ps : List Sh) : fros (ps.map sh) = true := by
  rw [fros_eq, List.all_eq_true]
  intro x hx
  obtain ⟨p, _, rfl⟩ := List.mem_map.mp hx
  exact fro_sh
theorem show_ok {p : Sh} (h : ShOk p) : Sy f_is_show (sh p) true := ⟨by
  have e1 := item_ok h.i
  have e2 := (grain_ok h.g1 h.g9).e
  obtain ⟨x, g⟩ := p
  simp only [f_is_show, b_is_show, sh]
  rw [mk_eq rfl]
  by_cases q : x = ("key" : Str)
  · have := h.k q
    simp only at this
    subst this
    subst q
    simp only at e1 e2
    simp -implicitDefEqProofs [ne_ii, eOr, e1, e2, ne_ss, eq_ii]
  · simp -implicitDefEqProofs [ne_ii, eOr, e1, e2, ne_ss, q], rfl⟩
theorem show_pair {x y : PV} {a b : Bool} (ha : Sy f_is_item x a) (hb : Sy f_is_grain y b) (h : (a && b) = false) : Sy f_is_show (.tup [x, y]) false := ⟨by
  have e1 := ha.e
  have e2 := hb.e
  have f1 := ha.fr
  have f2 := hb.fr
  have o1 : onlyFro x = some x := onlyFro_t f1
  have o2 : onlyFro y = some y := onlyFro_t f2
  simp only [f_is_show, b_is_show]
  rw [mk_eq rfl]
  cases a with
  | false => simp -implicitDefEqProofs [ne_ii, e1, o1, f1]
  | true =>
    simp at h
    subst h
    simp -implicitDefEqProofs [ne_ii, e1, e2, o1, o2, f1, f2], by simp [ha.fr, hb.fr]⟩
theorem show_key2 : Sy f_is_show (.tup [.str "key", .int 2]) false := ⟨by
  have e1 := item_ok (x := "key") (.inr rfl)
  have e2 := (grain_ok (g := 2) (by decide) (by decide)).e
  simp only [f_is_show, b_is_show]
  rw [mk_eq rfl]
  simp -implicitDefEqProofs [ne_ii, eOr, e1, e2, ne_ss, eq_ii], rfl⟩
theorem show_len {xs : List PV} (f : fros xs = true) (h : xs.length ≠ 2) : Sy f_is_show (.tup xs) false := ⟨by
  have n : cNe (.int (xs.length : Nat)) (.int 2) = some true := by
    rw [ne_ii]; simp; omega
  simp only [f_is_show, b_is_show]
  rw [mk_eq rfl]
  simp -implicitDefEqProofs [n], by simp [f]⟩
theorem show_nt {v : PV} (h : isA .tuple v = some false) (fv : fro v = true) : Sy f_is_show v false := ⟨by
  simp only [f_is_show, b_is_show]
  rw [mk_eq rfl]
  simp -implicitDefEqProofs [h], fv⟩
end Law
set_option Elab.async false
set_option linter.all false
set_option maxRecDepth 100000
set_option maxHeartbeats 1000000
/-! k14: what a sending may show, and what it may not. -/
namespace Law
open PySem (Str)
open Tr Tr.Ev
structure ShsOk (ps : List Sh) : Prop where
  a : ∀ p ∈ ps, ShOk p
  nd : (ps.map (·.1)).Nodup
  l1 : 1 ≤ ps.length
  l7 : ps.length ≤ 7
abbrev sv4 (xs : List PV) : Env := [some (.tup xs), none, none, none]
theorem shows_comp {zs : List (PV × Bool)} (h : ∀ z ∈ zs, Sy f_is_show z.1 z.2) : eCompN [1] 0 (bN 1) tYes (eCall f_is_show [.nm 1] []) (sv4 (zs.map (·.1))) = .ok (.lst true ((zs.map (·.2)).map .bl)) (sv4 (zs.map (·.1))) :=
  says_comp h (i := 0) (j := 1) rfl rfl
/-- the names of what is shown -/
theorem heads_comp (ps : List Sh) : eCompN [2, 3] 0 (bT [(bN 2), (bN 3)]) tYes (eNm 2) (sv4 (ps.map sh)) = .ok (.lst true ((ps.map (·.1)).map .str)) (sv4 (ps.map sh)) := by
  have core := comp_pure (own := [2, 3]) (b := bT [(bN 2), (bN 3)]) (t := tYes) (f := eNm 2) (ρ := sv4 (ps.map sh)) sh (fun _ => true) (fun p => PV.str p.1) (l := ps) fun p _ =>
    ⟨[some (.tup (ps.map sh)), none, some (.str p.1), some (.int p.2)], _, rfl, rfl, (fun h => by cases h), fun _ => ⟨[some (.tup (ps.map sh)), none, some (.str p.1), some (.int p.2)], by simp -implicitDefEqProofs, by simp⟩⟩
  have e2 := eCompN_fro (own := [2, 3]) (i := 0) (ρ := sv4 (ps.map sh)) (v := .tup (ps.map sh)) rfl rfl (by simp [fros_shs]) (fros_shs ps) core
  rw [e2, filter_t, List.map_map]
  simp
theorem tup_strs {ws : List Str} {w : Bool} : fTuple (.lst w (ws.map .str)) = some (.tup (ws.map .str)) := by
  show (if fros (ws.map PV.str) = true then some (PV.tup (ws.map PV.str)) else none) = _
  rw [if_pos (fros_str ws)]
theorem shown_len {xs : List PV} (f : fros xs = true) (h : xs.length < 1 ∨ 7 < xs.length) : Sy f_are_shown (.tup xs) false := ⟨by
  simp only [f_are_shown, b_are_shown]
  rw [mk_eq rfl]
  rcases h with h | h
  · have n : ¬ (1 : Int) ≤ xs.length := by omega
    simp -implicitDefEqProofs [n]
  · have n : (1 : Int) ≤ xs.length := by omega
    have n2 : ¬ (xs.length : Int) ≤ 7 := by omega
    simp -implicitDefEqProofs [n, n2], by simp [f]⟩
theorem shown_nt {v : PV} (h : isA .tuple v = some false) (fv : fro v = true) : Sy f_are_shown v false := ⟨by
  simp only [f_are_shown, b_are_shown]
  rw [mk_eq rfl]
  simp -implicitDefEqProofs [h], fv⟩
theorem shown_one {zs : List (PV × Bool)} (h : ∀ z ∈ zs, Sy f_is_show z.1 z.2) (hb : (zs.map (·.2)).all id = false) : Sy f_are_shown (.tup (zs.map (·.1))) false := by
  have fx := fros_zs h
  by_cases l : (zs.map (·.1)).length < 1 ∨ 7 < (zs.map (·.1)).length
  · exact shown_len fx l
  refine ⟨?_, by simp [fx]⟩
  have e := shows_comp h
  have n : (1 : Int) ≤ (zs.map (·.1)).length := by omega
  have n2 : ((zs.map (·.1)).length : Int) ≤ 7 := by omega
  simp only [f_are_shown, b_are_shown]
  rw [mk_eq rfl]
  generalize zs.map (·.1) = xs at e n n2 ⊢
  generalize zs.map (·.2) = bs at e hb
  simp -implicitDefEqProofs [n, n2, e, all_run, hb]
theorem shown_run {ps : List Sh} (a : ∀ p ∈ ps, ShOk p) (l1 : 1 ≤ ps.length) (l7 : ps.length ≤ 7) {b : Bool} (hd : f_are_distinct [.tup ((ps.map (·.1)).map .str)] = .ok (.bl b) [.tup ((ps.map (·.1)).map .str)]) : Sy f_are_shown (.tup (ps.map sh)) b := by
  refine ⟨?_, by simp [fros_shs]⟩
  have e := shows_comp (zs := ps.map fun p => (sh p, true)) fun z hz => by
    obtain ⟨p, hp, rfl⟩ := List.mem_map.mp hz
    exact show_ok (a p hp)
  have e1 : ((ps.map fun p => (sh p, true)).map (·.1)) = ps.map sh := by rw [List.map_map]; rfl
  have e2 : ((ps.map fun p => (sh p, true)).map (·.2)).all id = true := by simp
  rw [e1] at e
  have e3 := heads_comp ps
  have n : (1 : Int) ≤ (ps.map sh).length := by rw [List.length_map]; omega
  have n2 : ((ps.map sh).length : Int) ≤ 7 := by rw [List.length_map]; omega
  generalize ((ps.map fun p => (sh p, true)).map (·.2)) = bs at e e2
  have fs := fros_str (ps.map (·.1))
  simp only [f_are_shown, b_are_shown]
  rw [mk_eq rfl]
  generalize ps.map sh = xs at e e3 n n2 ⊢
  generalize ps.map (·.1) = ws at e3 hd fs
  simp -implicitDefEqProofs [n, n2, e, all_run, e2, e3, tup_strs, hd, fs]
theorem shown_ok {ps : List Sh} (h : ShsOk ps) : Sy f_are_shown (.tup (ps.map sh)) true :=
  shown_run h.a h.l1 h.l7 (distinct_ok h.nd (by rw [List.length_map]; have := h.l7; omega))
theorem shown_twice {ps : List Sh} (a : ∀ p ∈ ps, ShOk p) (nd : ¬ (ps.map (·.1)).Nodup) (l1 : 1 ≤ ps.length) : Sy f_are_shown (.tup (ps.map sh)) false := by
  by_cases l7 : ps.length ≤ 7
  · exact shown_run a l1 l7 (distinct_no nd (by rw [List.length_map]; omega))
  · exact shown_len (fros_shs ps) (.inr (by rw [List.length_map]; omega))
end Law
set_option Elab.async false
set_option linter.all false
set_option maxRecDepth 100000
set_option maxHeartbeats 1000000
namespace Law
open PySem (Str)
open Tr Tr.Ev
inductive Wd where
  | is | below | frm | filled
  deriving DecidableEq
def Wd.s : Wd → Str
  | .is => "is" | .below => "below" | .frm => "from" | .filled => "filled"
structure Tst where
  w : Wd
  n : Str
  c : Option Int
def tv (t : Tst) : PV := match t.w with
  | .filled => .tup [.str "filled", .str t.n]
  | w => .tup [.str w.s, .str t.n, cv t.c]
structure TOk (t : Tst) : Prop where
  n : WOk t.n
  c : ∀ i, t.c = some i → 0 ≤ i ∧ i < TOP
  b : t.w = .below ∨ t.w = .frm → ∃ i, t.c = some i
@[simp] theorem fro_cv {c : Option Int} : fro (cv c) = true := by cases c <;> rfl
@[simp] theorem frz_cv {c : Option Int} : frz (cv c) = cv c := by cases c <;> rfl
@[simp] theorem of_cv {c : Option Int} : onlyFro (cv c) = some (cv c) := by cases c <;> rfl
@[simp] theorem fro_tv {t : Tst} : fro (tv t) = true := by
  obtain ⟨w, n, c⟩ := t
  cases w <;> simp [tv]
@[simp] theorem frz_tv {t : Tst} : frz (tv t) = tv t := frz_of_fro fro_tv
theorem pick {ws : List Str} {d : Int} {w : Bool} (h0 : 0 ≤ d) (h1 : d < ws.length) : ∃ x ∈ ws, ix (.lst w (ws.map .str)) (.int d) = some (.str x) := by
  obtain ⟨x, hx, hat⟩ := at_list (xs := ws.map PV.str) h0 (by simpa using h1)
  obtain ⟨y, hy, rfl⟩ := List.mem_map.mp (List.mem_of_getElem? hx)
  refine ⟨y, hy, ?_⟩
  show (atI _ _).bind onlyFro = _
  rw [hat]; rfl
theorem tv0 {t : Tst} : ix (tv t) (.int 0) = some (.str t.w.s) := by
  obtain ⟨w, n, c⟩ := t
  cases w <;> simp [tv, Wd.s]
theorem tv1 {t : Tst} : ix (tv t) (.int 1) = some (.str t.n) := by
  obtain ⟨w, n, c⟩ := t
  cases w <;> simp [tv, Wd.s]
theorem tv2 {t : Tst} (h : t.w ≠ .filled) : ix (tv t) (.int 2) = some (cv t.c) := by
  obtain ⟨w, n, c⟩ := t
  cases w with
  | filled => exact absurd rfl h
  | is => simp [tv, Wd.s]
  | below => simp [tv, Wd.s]
  | frm => simp [tv, Wd.s]
theorem wd_eq {w : Wd} {x : Str} {w' : Wd} (hx : x = w'.s) : cEq (.str w.s) (.str x) = some (decide (w = w')) := by
  subst hx
  rw [eq_ss]
  congr 1
  have : (w.s = w'.s) ↔ w = w' := ⟨fun h => by cases w <;> cases w' <;> first | rfl | exact absurd h (by decide +kernel), fun h => by rw [h]⟩
  simp only [this]
theorem wd_nq {w : Wd} {x : Str} {w' : Wd} (hx : x = w'.s) : cNe (.str w.s) (.str x) = some (!decide (w = w')) := by
  subst hx
  rw [ne_ss]
  congr 1
  have : (w.s = w'.s) ↔ w = w' := ⟨fun h => by cases w <;> cases w' <;> first | rfl | exact absurd h (by decide +kernel), fun h => by rw [h]⟩
  simp only [this]
theorem eq_cv {a b : Option Int} : cEq (cv a) (cv b) = some (decide (a = b)) := by
  cases a <;> cases b <;> simp [cv, eq_ii] <;> rfl
theorem ne_cv {a b : Option Int} : cNe (cv a) (cv b) = some (!decide (a = b)) := by
  cases a <;> cases b <;> simp [cv, ne_ii] <;> rfl
theorem isN_cv {a : Option Int} : cIsN (cv a) = some a.isNone := by cases a <;> rfl
theorem noN_cv {a : Option Int} : cNotN (cv a) = some a.isSome := by cases a <;> rfl
theorem tv_is {w : Wd} : cEq (.str w.s) (.str "is") = some (decide (w = .is)) := wd_eq rfl
theorem tv_below {w : Wd} : cEq (.str w.s) (.str "below") = some (decide (w = .below)) := wd_eq rfl
theorem tv_frm {w : Wd} : cEq (.str w.s) (.str "from") = some (decide (w = .frm)) := wd_eq rfl
theorem tv_filled {w : Wd} : cEq (.str w.s) (.str "filled") = some (decide (w = .filled)) := wd_eq rfl
theorem tv_nis {w : Wd} : cNe (.str w.s) (.str "is") = some (!decide (w = .is)) := wd_nq rfl
theorem fros_tv (ts : List Tst) : fros (ts.map tv) = true := by
  induction ts with
  | nil => rfl
  | cons x ts ih => rw [List.map_cons, fros, ih, fro_tv]; rfl
end Law
set_option Elab.async false
set_option linter.all false
set_option maxRecDepth 100000
set_option maxHeartbeats 1000000
/-! k14: tests, and the making of a sending. -/
namespace Law
open PySem (Str)
open Tr Tr.Ev
theorem d_if : ("is" : Str) ≠ ("filled" : Str) := by decide +kernel
theorem d_bf : ("below" : Str) ≠ ("filled" : Str) := by decide +kernel
theorem d_ff : ("from" : Str) ≠ ("filled" : Str) := by decide +kernel
theorem d_bi : ("below" : Str) ≠ ("is" : Str) := by decide +kernel
theorem d_fi : ("from" : Str) ≠ ("is" : Str) := by decide +kernel
abbrev BF2 : List Str := ["below", "from"]
theorem in_bf {k : Str} : cIn (.str k) (.tup [.str "below", .str "from"]) = some (decide (k ∈ BF2)) := in_tstrs (ws := BF2)
theorem m_b : ("below" : Str) ∈ BF2 := List.mem_cons_self
theorem m_f : ("from" : Str) ∈ BF2 := List.mem_cons_of_mem _ List.mem_cons_self
theorem test_ok {t : Tst} (h : TOk t) : Sy f_is_test (tv t) true := by
  refine ⟨?_, fro_tv⟩
  have e1 := name_ok h.n
  obtain ⟨w, x, c⟩ := t
  cases w with
  | is =>
    have e2 := icell_ok (c := c) h.c
    simp only [tv, Wd.s, f_is_test, b_is_test]
    rw [mk_eq rfl]
    simp -implicitDefEqProofs [e1, e2, eq_ss, eq_ii, ne_ii, d_if]
  | below =>
    obtain ⟨n, rfl⟩ := h.b (.inl rfl)
    obtain ⟨n0, n1⟩ := h.c n rfl
    have e2 := num_ok n0 n1
    simp only [tv, Wd.s, cv, f_is_test, b_is_test]
    rw [mk_eq rfl]
    simp -implicitDefEqProofs [eAnd, e1, e2, eq_ss, eq_ii, ne_ii, d_bf, d_bi, in_bf, m_b, -List.mem_cons]
  | frm =>
    obtain ⟨n, rfl⟩ := h.b (.inr rfl)
    obtain ⟨n0, n1⟩ := h.c n rfl
    have e2 := num_ok n0 n1
    simp only [tv, Wd.s, cv, f_is_test, b_is_test]
    rw [mk_eq rfl]
    simp -implicitDefEqProofs [eAnd, e1, e2, eq_ss, eq_ii, ne_ii, d_ff, d_fi, in_bf, m_f, -List.mem_cons]
  | filled =>
    simp only [tv, Wd.s, f_is_test, b_is_test]
    rw [mk_eq rfl]
    simp -implicitDefEqProofs [e1, eq_ss, eq_ii, ne_ii]
theorem tests_all {zs : List (PV × Bool)} (h : ∀ z ∈ zs, Sy f_is_test z.1 z.2) : Sy f_are_tests (.tup (zs.map (·.1))) ((zs.map (·.2)).all id) := by
  have fx := fros_zs h
  refine ⟨?_, by simp [fx]⟩
  have e : eCompN [1] 0 (bN 1) tYes (eCall f_is_test [.nm 1] []) [some (.tup (zs.map (·.1))), none] = .ok (.lst true ((zs.map (·.2)).map .bl)) [some (.tup (zs.map (·.1))), none] := says_comp h (i := 0) (j := 1) rfl rfl
  generalize zs.map (·.1) = xs at e fx ⊢
  generalize zs.map (·.2) = bs at e ⊢
  simp only [f_are_tests, b_are_tests]
  rw [mk_eq rfl]
  simp -implicitDefEqProofs [eAnd, e, all_run, fx]
theorem tests_nt {v : PV} (h : isA .tuple v = some false) (fv : fro v = true) : Sy f_are_tests v false := ⟨by
  simp only [f_are_tests, b_are_tests]
  rw [mk_eq rfl]
  simp -implicitDefEqProofs [eAnd, h], fv⟩
theorem tests_ok {ts : List Tst} (h : ∀ t ∈ ts, TOk t) : Sy f_are_tests (.tup (ts.map tv)) true := by
  have e := tests_all (zs := ts.map fun t => (tv t, true)) fun z hz => by
    obtain ⟨t, ht, rfl⟩ := List.mem_map.mp hz
    exact test_ok (h t ht)
  have e1 : ((ts.map fun t => (tv t, true)).map (·.1)) = ts.map tv := by rw [List.map_map]; rfl
  have e2 : ((ts.map fun t => (tv t, true)).map (·.2)).all id = true := by simp
  rw [e1, e2] at e
  exact e
/-! the making of a sending -/
abbrev sd (s t o : PV) : PV := .ins true 8 [s, t, o]
theorem init_shown {s t o : PV} (h : Sy f_are_shown s false) (ft : fro t = true) (fo : fro o = true) : f_Sending___init__ [.ins true 8 [], s, t, o] = .er ⟨2, [.str "shown"]⟩ [.ins true 8 [], s, t, o] := by
  have e := h.e
  have fs := h.fr
  simp only [f_Sending___init__, b_Sending___init__]
  rw [mk_eq rfl]
  simp -implicitDefEqProofs [e, fs]
theorem init_tests {s t o : PV} (h : Sy f_are_shown s true) (h2 : Sy f_are_tests t false) (fo : fro o = true) : f_Sending___init__ [.ins true 8 [], s, t, o] = .er ⟨2, [.str "tests"]⟩ [.ins true 8 [], s, t, o] := by
  have e := h.e
  have fs := h.fr
  have e2 := h2.e
  have ft := h2.fr
  simp only [f_Sending___init__, b_Sending___init__]
  rw [mk_eq rfl]
  simp -implicitDefEqProofs [e, fs, e2, ft]
theorem init_once {s t o : PV} (h : Sy f_are_shown s true) (h2 : Sy f_are_tests t true) (h3 : isA .bool o = some false) : f_Sending___init__ [.ins true 8 [], s, t, o] = .er ⟨2, [.str "once"]⟩ [.ins true 8 [], s, t, o] := by
  have e := h.e
  have fs := h.fr
  have e2 := h2.e
  have ft := h2.fr
  simp only [f_Sending___init__, b_Sending___init__]
  rw [mk_eq rfl]
  simp -implicitDefEqProofs [e, fs, e2, ft, h3]
theorem init_good {s t : PV} {b : Bool} (h : Sy f_are_shown s true) (h2 : Sy f_are_tests t true) : f_Sending___init__ [.ins true 8 [], s, t, .bl b] = .ok .non [sd s t (.bl b), s, t, .bl b] := by
  have e := h.e
  have fs := h.fr
  have e2 := h2.e
  have ft := h2.fr
  have zs : frz s = s := frz_of_fro fs
  have zt : frz t = t := frz_of_fro ft
  have bb : isA .bool (.bl b) = some true := rfl
  have p2 : putFld 2 (.bl b) [s, t] = some [s, t, .bl b] := rfl
  simp only [f_Sending___init__, b_Sending___init__]
  rw [mk_eq rfl]
  simp -implicitDefEqProofs [e, fs, e2, ft, bb, zs, zt, sd, p2]
end Law
set_option Elab.async false
set_option linter.all false
set_option maxRecDepth 100000
set_option maxHeartbeats 2000000
/-! k14: what is shown, drawn. -/
namespace Law
open PySem (Str)
open Tr Tr.Ev
theorem e9 : bPow (.int 10) (.int 9) = some (.int 1000000000) := by
  rw [pow_ii (by decide +kernel)]
  exact congrArg (fun z => some (PV.int z)) (by decide +kernel : (10 : Int) ^ (9 : Int).toNat = 1000000000)
theorem filter_one {x : Str} : ∀ {l : List Str}, l.Nodup → x ∈ l → (l.filter fun y => !decide (y = x)).length + 1 = l.length
  | [], _, h => by cases h
  | y :: l, nd, h => by
    obtain ⟨n1, n2⟩ := List.nodup_cons.mp nd
    by_cases e : y = x
    · subst e
      have : (l.filter fun z => !decide (z = y)) = l := List.filter_eq_self.mpr fun z hz => by
        simp; exact fun e => n1 (e ▸ hz)
      rw [List.filter_cons]
      simp [this]
    · rw [List.filter_cons]
      have mx : x ∈ l := (List.mem_cons.mp h).resolve_left fun z => e z.symm
      have := filter_one n2 mx
      simp [e]
      omega
abbrev KL : List Str := ["key"]
abbrev SE4 (p : PV) (ws lf : List Str) (ps : List Sh) (k x g : Option PV) : Env :=
  [some p, some (.tup (ws.map .str)), some (.lst true (lf.map .str)), some (.lst true (ps.map sh)), k, x, g, none]
def shB : SF := (sSeq (sSet 5 (eP2 ix (.nm 2) (.ev (eCall f__law_draw [(.nm 0), (.ev (eP1 fLen (.nm 2)))] []))))
    (sSeq (sSet 2 (eCompN [7] 2 (bN 7) (tPV2 cNe (.nm 7) (.nm 5)) (eNm 7)))
    (sSeq (sSet 6 (eP2 ix (.ev (eLst (aCons (eC (.int 1)) (aCons (eC (.int 1)) (aCons (eC (.int 2)) (aCons (eC (.int 10)) (aCons (eP2 bPow (.ev (eC (.int 10))) (.ev (eC (.int 9)))) (aCons (eP2 bAdd (.ev (eC (.int 1))) (.ev (eCall f__law_draw [(.nm 0), (.ev (eP2 bPow (.ev (eC (.int 10))) (.ev (eC (.int 9)))))] []))) aNil)))))))) (.ev (eCall f__law_draw [(.nm 0), (.ev (eC (.int 6)))] []))))
    (sApp 3 (eTup (aCons (eNm 5) (aCons (eIf (tPV2 cEq (.nm 5) (.ev (eC (.str "key")))) (eC (.int 1)) (eNm 6)) aNil)))))))
section
variable {p : PV} {n : Int} {ws lf : List Str} {ps : List Sh} {k ox og : Option PV}
theorem drop_run {x : Str} {c : Option PV} : eCompN [7] 2 (bN 7) (tPV2 cNe (.nm 7) (.nm 5)) (eNm 7) (SE4 p ws lf ps k (some (.str x)) c) = .ok (.lst true ((lf.filter fun y => !decide (y = x)).map .str)) (SE4 p ws lf ps k (some (.str x)) c) := by
  have core := comp_pure (own := [7]) (b := bN 7) (t := tPV2 cNe (.nm 7) (.nm 5)) (f := eNm 7) (ρ := [some p, some (.tup (ws.map .str)), none, some (.lst true (ps.map sh)), k, some (.str x), c, none]) PV.str (fun y => !decide (y = x)) PV.str (l := lf) fun y _ =>
    ⟨[some p, some (.tup (ws.map .str)), none, some (.lst true (ps.map sh)), k, some (.str x), c, some (.str y)], [some p, some (.tup (ws.map .str)), none, some (.lst true (ps.map sh)), k, some (.str x), c, some (.str y)], rfl, by simp -implicitDefEqProofs [ne_ss], (fun _ => by simp), fun _ => ⟨[some p, some (.tup (ws.map .str)), none, some (.lst true (ps.map sh)), k, some (.str x), c, some (.str y)], by simp -implicitDefEqProofs, by simp⟩⟩
  have e2 := eCompN_own (own := [7]) (i := 2) (ρ := SE4 p ws lf ps k (some (.str x)) c) (v := .lst true (lf.map .str)) rfl rfl rfl (fros_str lf) core
  rw [e2]
  simp
theorem shown_turn (h : Pot p (n + 3)) (hn : 0 ≤ n) (ne : lf ≠ []) (l9 : lf.length < 9) (hk : ∀ x ∈ lf, WOk x ∨ x = ("key" : Str)) (hp : ps.length < 100) :
    ∃ (x : Str) (g : Int) (og' : Option PV) (p' : PV), shB (SE4 p ws lf ps k ox og) = .nx (SE4 p' ws (lf.filter fun y => !decide (y = x)) (ps ++ [(x, g)]) k (some (.str x)) og') ∧ x ∈ lf ∧ ShOk (x, g) ∧ Pot p' n := by
  have l0 : 0 < lf.length := List.length_pos_iff.mpr ne
  obtain ⟨d, p1, e1, d0, d1, h1⟩ := draw_ok (n := n + 2) (m := (lf.length : Nat)) (h.less (by omega) (by omega)) (by omega) (by omega) (by omega)
  obtain ⟨x, mx, ex⟩ := pick (w := true) d0 d1
  obtain ⟨q, p2, e2, q0, q1, h2⟩ := draw_ok (n := n + 1) (m := 1000000000) (h1.less (by omega) (by omega)) (by omega) (by decide) (by decide)
  obtain ⟨r, p3, e3, r0, r1, h3⟩ := draw_ok (n := n) (m := 6) (h2.less (by omega) (by omega)) (by omega) (by decide) (by decide)
  obtain ⟨o, mo, eo, fo⟩ := pick_any (b := true) (xs := [.int 1, .int 1, .int 2, .int 10, .int 1000000000, .int (1 + q)]) rfl r0 (by simpa using r1)
  have og : ∃ g : Int, o = .int g ∧ 1 ≤ g ∧ g ≤ 1000000000 := by
    simp only [List.mem_cons, List.not_mem_nil, or_false] at mo
    rcases mo with rfl | rfl | rfl | rfl | rfl | rfl
    · exact ⟨_, rfl, by decide, by decide⟩
    · exact ⟨_, rfl, by decide, by decide⟩
    · exact ⟨_, rfl, by decide, by decide⟩
    · exact ⟨_, rfl, by decide, by decide⟩
    · exact ⟨_, rfl, by decide, by decide⟩
    · exact ⟨_, rfl, by omega, by omega⟩
  obtain ⟨g, rfl, g1, g9⟩ := og
  have w := h.own
  have w1 := h1.own
  have w2 := h2.own
  have len : fLen (.lst true (lf.map PV.str)) = some (.int (lf.length : Nat)) := by
    show some (PV.int ((lf.map PV.str).length : Nat)) = _
    rw [List.length_map]
  have hb : ps.length < big := by unfold big; omega
  have st : ∀ {og : Option PV}, shB (SE4 p ws lf ps k ox og) = (sApp 3 (eTup (aCons (eNm 5) (aCons (eIf (tPV2 cEq (.nm 5) (.ev (eC (.str "key")))) (eC (.int 1)) (eNm 6)) aNil)))) (SE4 p3 ws (lf.filter fun y => !decide (y = x)) ps k (some (.str x)) (some (.int g))) := fun {og} => by
    unfold shB
    rw [seq_nx (ρ1 := SE4 p1 ws lf ps k (some (.str x)) og) (by simp -implicitDefEqProofs [e1, ex, len, w, -ix_l]) rfl,
      seq_nx (ρ1 := SE4 p1 ws (lf.filter fun y => !decide (y = x)) ps k (some (.str x)) og) (by rw [sSet_eq, drop_run]; simp -implicitDefEqProofs) rfl]
    refine seq_nx ?_ rfl
    simp -implicitDefEqProofs [e2, e3, eo, e9, w1, w2, -ix_l]
  by_cases qk : x = ("key" : Str)
  · refine ⟨x, 1, some (.int g), p3, ?_, mx, ⟨hk x mx, Int.le_refl 1, (by decide : (1 : Int) ≤ 1000000000), fun _ => rfl⟩, h3⟩
    rw [st]
    simp -implicitDefEqProofs [eq_ss, qk, hb, sh]
  · refine ⟨x, g, some (.int g), p3, ?_, mx, ⟨hk x mx, g1, g9, fun z => absurd z qk⟩, h3⟩
    rw [st]
    simp -implicitDefEqProofs [eq_ss, qk, hb, sh]
theorem shown_draw (h : Pot p (n + 40)) (hn : 0 ≤ n) (hw : ∀ x ∈ ws, WOk x) (nd : ws.Nodup) (l1 : 1 ≤ ws.length) (l6 : ws.length ≤ 6) :
    ∃ (ps : List Sh) (p' : PV), f__law_shown [p, .tup (ws.map .str)] = .ok (.tup (ps.map sh)) [p', .tup (ws.map .str)] ∧ ShsOk ps ∧ (∀ x ∈ ps.map (·.1), x ∈ ws ∨ x = ("key" : Str)) ∧ Pot p' n := by
  obtain ⟨d, p1, e1, d0, d1, h1⟩ := draw_ok (n := n + 30) (m := (ws.length : Nat) + 1) (h.less (by omega) (by omega)) (by omega) (by omega) (by omega)
  have nk : ("key" : Str) ∉ ws := fun z => (hw _ z).key rfl
  obtain ⟨ρ', e2, p2, lf, ps, k, ox, og, rfl, llf, lps, hnd, hlf, hps, hdis, hok, hsub, h2⟩ := loop_run (b := bN 4) (s := shB) (xs := (List.range (1 + d).toNat).map fun i => PV.int (i : Nat)) (ρ := SE4 p1 ws (ws ++ KL) [] none none none)
    (fun i ρ => ∃ p lf ps k ox og, ρ = SE4 p ws lf ps k ox og ∧ lf.length + i = ws.length + 1 ∧ ps.length = i ∧ lf.Nodup ∧ (∀ x ∈ lf, x ∈ ws ∨ x = ("key" : Str)) ∧ (ps.map (·.1)).Nodup ∧ (∀ x ∈ lf, x ∉ ps.map (·.1)) ∧ (∀ q ∈ ps, ShOk q) ∧ (∀ x ∈ ps.map (·.1), x ∈ ws ∨ x = ("key" : Str)) ∧ Pot p (n + 30 - 3 * i))
    ⟨p1, ws ++ KL, [], none, none, none, rfl, by simp, rfl, by
      rw [List.nodup_append]
      refine ⟨nd, by simp, fun a ha b hb => ?_⟩
      rw [List.mem_singleton] at hb
      subst hb
      exact fun e => nk (e ▸ ha), fun x hx => by simpa using hx, by simp, by simp, by simp, by simp, h1.less (by omega) (by omega)⟩ fun i x ρ hx hp => by
      obtain ⟨p, lf, ps, k, ox, og, rfl, llf, lps, hnd, hlf, hps, hdis, hok, hsub, hq⟩ := hp
      obtain ⟨hlt, rfl⟩ := range_get hx
      have ne : lf ≠ [] := fun e => by subst e; simp at llf; omega
      obtain ⟨x, g, og', p', e, mx, ox', h'⟩ := shown_turn (n := n + 30 - 3 * ((i + 1 : Nat) : Int)) (ws := ws) (lf := lf) (ps := ps) (k := some (.int (i : Nat))) (ox := ox) (og := og) (hq.less (by omega) (by omega)) (by omega) ne (by omega) (fun y hy => (hlf y hy).elim (fun z => .inl (hw y z)) .inr) (by omega)
      refine ⟨_, rfl, .inl ⟨_, e, p', _, _, _, _, _, rfl, ?_, ?_, hnd.filter _, fun y hy => hlf y (List.mem_filter.mp hy).1, ?_, ?_, ?_, ?_, h'⟩⟩
      · have : (lf.filter fun y => !decide (y = x)).length + 1 = lf.length := by
          have := filter_one hnd mx
          omega
        omega
      · simp [lps]
      · rw [List.map_append, List.nodup_append]
        refine ⟨hps, by simp, fun a ha b hb => ?_⟩
        simp at hb
        subst hb
        exact fun e => hdis b mx (e ▸ ha)
      · intro y hy
        obtain ⟨y1, y2⟩ := List.mem_filter.mp hy
        simp at y2
        simp only [List.map_append, List.mem_append, List.map_cons, List.map_nil, List.mem_singleton, not_or]
        exact ⟨hdis y y1, y2⟩
      · intro q hq2
        rcases List.mem_append.mp hq2 with z | z
        · exact hok q z
        · rw [List.mem_singleton.mp z]; exact ox'
      · intro y hy
        simp only [List.map_append, List.mem_append, List.map_cons, List.map_nil, List.mem_singleton] at hy
        rcases hy with z | z
        · exact hsub y z
        · subst z; exact hlf y mx
  simp only [List.length_map, List.length_range] at llf lps h2
  refine ⟨ps, p2, ?_, ⟨hok, hps, by omega, by omega⟩, hsub, h2.less hn (by omega)⟩
  have ow := h.own
  have ow1 := h1.own
  have ow2 := h2.own
  have len : fLen (.tup (ws.map PV.str)) = some (.int (ws.length : Nat)) := by
    show some (PV.int ((ws.map PV.str).length : Nat)) = _
    rw [List.length_map]
  have fl : fList (.tup (ws.map PV.str)) = some (.lst true (ws.map PV.str)) := by
    show (if fros (ws.map PV.str) = true then _ else _) = _
    rw [if_pos (fros_str ws)]
  have ad : bAdd (.lst true (ws.map PV.str)) (.lst true [.str "key"]) = some (.lst true ((ws ++ KL).map PV.str)) := add_strs (ys := KL) (by simp; unfold big; omega)
  have hr : iRange1 (eP2 bAdd (.ev (eC (.int 1))) (.ev (eCall f__law_draw [(.nm 0), (.ev (eP2 bAdd (.ev (eP1 fLen (.nm 1))) (.ev (eC (.int 1)))))] []))) (SE4 p ws (ws ++ KL) [] none none none) = .ok ((List.range (1 + d).toNat).map fun i => PV.int (i : Nat)) (SE4 p1 ws (ws ++ KL) [] none none none) :=
    range1_run (n := 1 + d) (by simp -implicitDefEqProofs [e1, len, ow, fros_str]) (by omega) (by omega)
  have e3 := sFor_run hr e2
  unfold shB at e3
  have tp : fTuple (.lst true (ps.map sh)) = some (.tup (ps.map sh)) := by
    show (if fros (ps.map sh) = true then some (PV.tup (ps.map sh)) else none) = _
    rw [if_pos (fros_shs ps)]
  simp only [f__law_shown, b__law_shown]
  rw [mk_eq rfl]
  simp -implicitDefEqProofs only [List.map_cons, List.map_nil, List.length_cons, List.length_nil, List.cons_append, List.nil_append, List.replicate]
  rw [seq_nx (ρ1 := SE4 p ws (ws ++ KL) [] none none none) (by simp -implicitDefEqProofs [fl, ad]) rfl, seq_nx e3 rfl]
  simp -implicitDefEqProofs [tp, ow2]
end
end Law
set_option Elab.async false
set_option linter.all false
set_option maxRecDepth 100000
set_option maxHeartbeats 2000000
/-! k14: tests drawn. -/
namespace Law
open PySem (Str)
open Tr Tr.Ev
def six6 (x : Str) (n : Int) : List Tst := [⟨.is, x, some n⟩, ⟨.below, x, some n⟩, ⟨.frm, x, some n⟩, ⟨.filled, x, none⟩, ⟨.is, x, none⟩, ⟨.frm, x, some 0⟩]
theorem six6_ok {x : Str} {n : Int} (hx : WOk x) (h0 : 0 ≤ n) (h1 : n < TOP) {t : Tst} (h : t ∈ six6 x n) : TOk t := by
  have tp : (0 : Int) < TOP := by decide
  simp only [six6, List.mem_cons, List.not_mem_nil, or_false] at h
  rcases h with rfl | rfl | rfl | rfl | rfl | rfl
  · exact ⟨hx, fun i e => by cases e; exact ⟨h0, h1⟩, fun _ => ⟨_, rfl⟩⟩
  · exact ⟨hx, fun i e => by cases e; exact ⟨h0, h1⟩, fun _ => ⟨_, rfl⟩⟩
  · exact ⟨hx, fun i e => by cases e; exact ⟨h0, h1⟩, fun _ => ⟨_, rfl⟩⟩
  · exact ⟨hx, (fun i e => by cases e), (fun e => by rcases e with e | e <;> cases e)⟩
  · exact ⟨hx, (fun i e => by cases e), (fun e => by rcases e with e | e <;> cases e)⟩
  · exact ⟨hx, fun i e => by cases e; exact ⟨Int.le_refl 0, tp⟩, fun _ => ⟨_, rfl⟩⟩
abbrev TE4 (p : PV) (ws : List Str) (b : Bool) (is : List Int) (ts : List Tst) (k x n s : Option PV) : Env :=
  [some p, some (.tup (ws.map .str)), some (.lst b (is.map .int)), some (.lst true (ts.map tv)), k, x, n, s, none]
def teB : SF := (sSeq (sSetT (bT [(bN 5), (bN 6)]) (eTup (aCons (eP2 ix (.nm 1) (.ev (eCall f__law_draw [(.nm 0), (.ev (eP1 fLen (.nm 1)))] []))) (aCons (eP2 ix (.nm 2) (.ev (eCall f__law_draw [(.nm 0), (.ev (eP1 fLen (.nm 2)))] []))) aNil))))
    (sSeq (sSet 7 (eLst (aCons (eTup (aCons (eC (.str "is")) (aCons (eNm 5) (aCons (eNm 6) aNil)))) (aCons (eTup (aCons (eC (.str "below")) (aCons (eNm 5) (aCons (eNm 6) aNil)))) (aCons (eTup (aCons (eC (.str "from")) (aCons (eNm 5) (aCons (eNm 6) aNil)))) aNil)))))
    (sSeq (sSet 7 (eP2 bAdd (.nm 7) (.ev (eLst (aCons (eTup (aCons (eC (.str "filled")) (aCons (eNm 5) aNil))) (aCons (eTup (aCons (eC (.str "is")) (aCons (eNm 5) (aCons (eC .non) aNil)))) (aCons (eTup (aCons (eC (.str "from")) (aCons (eNm 5) (aCons (eC (.int 0)) aNil)))) aNil)))))))
    (sIf (tPV2 cLt (.ev (eP1 fLen (.ev (eCompN [8] 3 (bN 8) (tPV2 cEq (.ev (eP2 ix (.nm 8) (.ev (eC (.int 1))))) (.nm 5)) (eNm 8))))) (.ev (eC (.int 4)))) (sApp 3 (eP2 ix (.nm 7) (.ev (eCall f__law_draw [(.nm 0), (.ev (eC (.int 6)))] [])))) sNx))))
section
variable {p : PV} {n : Int} {ws : List Str} {b : Bool} {is : List Int} {ts : List Tst} {k ox on os : Option PV}
theorem cnt_run {x : Str} {c d : Option PV} : eCompN [8] 3 (bN 8) (tPV2 cEq (.ev (eP2 ix (.nm 8) (.ev (eC (.int 1))))) (.nm 5)) (eNm 8) (TE4 p ws b is ts k (some (.str x)) c d) = .ok (.lst true ((ts.filter fun t => decide (t.n = x)).map tv)) (TE4 p ws b is ts k (some (.str x)) c d) := by
  have core := comp_pure (own := [8]) (b := bN 8) (t := tPV2 cEq (.ev (eP2 ix (.nm 8) (.ev (eC (.int 1))))) (.nm 5)) (f := eNm 8) (ρ := [some p, some (.tup (ws.map .str)), some (.lst b (is.map .int)), none, k, some (.str x), c, d, none]) tv (fun t => decide (t.n = x)) tv (l := ts) fun t _ =>
    ⟨[some p, some (.tup (ws.map .str)), some (.lst b (is.map .int)), none, k, some (.str x), c, d, some (tv t)], [some p, some (.tup (ws.map .str)), some (.lst b (is.map .int)), none, k, some (.str x), c, d, some (tv t)], rfl, by simp -implicitDefEqProofs [tv1, eq_ss], (fun _ => by simp), fun _ => ⟨[some p, some (.tup (ws.map .str)), some (.lst b (is.map .int)), none, k, some (.str x), c, d, some (tv t)], by simp -implicitDefEqProofs, by simp⟩⟩
  have e2 := eCompN_own (own := [8]) (i := 3) (ρ := TE4 p ws b is ts k (some (.str x)) c d) (v := .lst true (ts.map tv)) rfl rfl rfl (fros_tv ts) core
  rw [e2]
  simp
theorem tests_turn (h : Pot p (n + 3)) (hn : 0 ≤ n) (hw : ∀ x ∈ ws, WOk x) (l1 : 1 ≤ ws.length) (l9 : ws.length < 100) (hi : NumOk is) (i1 : 1 ≤ is.length) (i9 : is.length < 100) (ht : ts.length < 100) :
    ∃ (x : Str) (m : Int) (ts' : List Tst) (p' : PV), teB (TE4 p ws b is ts k ox on os) = .nx (TE4 p' ws b is ts' k (some (.str x)) (some (.int m)) (some (.lst true ((six6 x m).map tv)))) ∧ x ∈ ws ∧ (ts' = ts ∨ ∃ t, ts' = ts ++ [t] ∧ TOk t ∧ t.n ∈ ws) ∧ Pot p' n := by
  obtain ⟨d, p1, e1, d0, d1, h1⟩ := draw_ok (n := n + 2) (m := (ws.length : Nat)) (h.less (by omega) (by omega)) (by omega) (by omega) (by omega)
  obtain ⟨q, p2, e2, q0, q1, h2⟩ := draw_ok (n := n + 1) (m := (is.length : Nat)) (h1.less (by omega) (by omega)) (by omega) (by omega) (by omega)
  obtain ⟨r, p3, e3, r0, r1, h3⟩ := draw_ok (n := n) (m := 6) (h2.less (by omega) (by omega)) (by omega) (by decide) (by decide)
  obtain ⟨x, mx, ex⟩ : ∃ x ∈ ws, ix (.tup (ws.map .str)) (.int d) = some (.str x) := by
    obtain ⟨x, hx, hat⟩ := at_list (xs := ws.map PV.str) d0 (by simpa using d1)
    obtain ⟨y, hy, rfl⟩ := List.mem_map.mp (List.mem_of_getElem? hx)
    refine ⟨y, hy, ?_⟩
    show (atI _ _).bind onlyFro = _
    rw [hat]; rfl
  obtain ⟨v, mv, ev, _⟩ := pick_any (b := b) (xs := is.map PV.int) (fros_ints is) q0 (by simpa using q1)
  obtain ⟨m, mm, rfl⟩ := List.mem_map.mp mv
  obtain ⟨m0, m1⟩ := hi m mm
  obtain ⟨o, mo, eo, _⟩ := pick_any (b := true) (xs := (six6 x m).map tv) (fros_tv _) r0 (by simpa [six6] using r1)
  obtain ⟨t, mt, rfl⟩ := List.mem_map.mp mo
  have tok := six6_ok (hw x mx) m0 m1 mt
  have tn : t.n = x := by
    simp only [six6, List.mem_cons, List.not_mem_nil, or_false] at mt
    rcases mt with rfl | rfl | rfl | rfl | rfl | rfl <;> rfl
  have w := h.own
  have w1 := h1.own
  have w2 := h2.own
  have lenw : fLen (.tup (ws.map PV.str)) = some (.int (ws.length : Nat)) := by
    show some (PV.int ((ws.map PV.str).length : Nat)) = _
    rw [List.length_map]
  have leni : fLen (.lst b (is.map PV.int)) = some (.int (is.length : Nat)) := by
    show some (PV.int ((is.map PV.int).length : Nat)) = _
    rw [List.length_map]
  have hb : ts.length < big := by unfold big; omega
  have ad : bAdd (.lst true [tv ⟨.is, x, some m⟩, tv ⟨.below, x, some m⟩, tv ⟨.frm, x, some m⟩]) (.lst true [tv ⟨.filled, x, none⟩, tv ⟨.is, x, none⟩, tv ⟨.frm, x, some 0⟩]) = some (.lst true ((six6 x m).map tv)) := rfl
  have st : teB (TE4 p ws b is ts k ox on os) = (sIf (tPV2 cLt (.ev (eP1 fLen (.ev (eCompN [8] 3 (bN 8) (tPV2 cEq (.ev (eP2 ix (.nm 8) (.ev (eC (.int 1))))) (.nm 5)) (eNm 8))))) (.ev (eC (.int 4)))) (sApp 3 (eP2 ix (.nm 7) (.ev (eCall f__law_draw [(.nm 0), (.ev (eC (.int 6)))] [])))) sNx) (TE4 p2 ws b is ts k (some (.str x)) (some (.int m)) (some (.lst true ((six6 x m).map tv)))) := by
    unfold teB
    rw [seq_nx (ρ1 := TE4 p2 ws b is ts k (some (.str x)) (some (.int m)) os) (by simp -implicitDefEqProofs [e1, e2, ex, ev, lenw, leni, w, w1, -ix_l, -ix_t]) rfl,
      seq_nx (ρ1 := TE4 p2 ws b is ts k (some (.str x)) (some (.int m)) (some (.lst true [tv ⟨.is, x, some m⟩, tv ⟨.below, x, some m⟩, tv ⟨.frm, x, some m⟩]))) (by simp -implicitDefEqProofs [tv, cv, Wd.s]) rfl]
    refine seq_nx ?_ rfl
    have ad' := ad
    simp only [tv, cv, Wd.s] at ad'
    simp -implicitDefEqProofs [tv, cv, Wd.s, ad']
  have len2 : fLen (.lst true ((ts.filter fun t => decide (t.n = x)).map tv)) = some (.int ((ts.filter fun t => decide (t.n = x)).length : Nat)) := by
    show some (PV.int (((ts.filter fun t => decide (t.n = x)).map tv).length : Nat)) = _
    rw [List.length_map]
  have cnt := cnt_run (p := p2) (ws := ws) (b := b) (is := is) (ts := ts) (k := k) (x := x) (c := some (.int m)) (d := some (.lst true ((six6 x m).map tv)))
  generalize hS : (six6 x m).map tv = S at eo st cnt
  by_cases c : (((ts.filter fun t => decide (t.n = x)).length : Nat) : Int) < 4
  · refine ⟨x, m, ts ++ [t], p3, ?_, mx, .inr ⟨t, rfl, tok, by rw [tn]; exact mx⟩, h3⟩
    rw [st]
    simp -implicitDefEqProofs [cnt, len2, c, e3, eo, w2, hb, hS, -ix_l]
  · refine ⟨x, m, ts, p2, ?_, mx, .inl rfl, h2.less (by omega) (by omega)⟩
    rw [st]
    simp -implicitDefEqProofs [cnt, len2, c, hS]
theorem tests_draw (h : Pot p (n + 40)) (hn : 0 ≤ n) (hw : ∀ x ∈ ws, WOk x) (l1 : 1 ≤ ws.length) (l6 : ws.length ≤ 6) (hi : NumOk is) (i1 : 1 ≤ is.length) (i9 : is.length < 100) :
    ∃ (ts : List Tst) (p' : PV), f__law_tests [p, .tup (ws.map .str), .lst b (is.map .int)] = .ok (.tup (ts.map tv)) [p', .tup (ws.map .str), .lst b (is.map .int)] ∧ (∀ t ∈ ts, TOk t) ∧ (∀ t ∈ ts, t.n ∈ ws) ∧ ts.length ≤ 8 ∧ Pot p' n := by
  obtain ⟨q, p1, e1, q0, q1, h1⟩ := draw_ok (n := n + 35) (m := 9) (h.less (by omega) (by omega)) (by omega) (by decide) (by decide)
  obtain ⟨d, p2, e2, d0, d1, h2⟩ := draw_ok (n := n + 30) (m := 5) (h1.less (by omega) (by omega)) (by omega) (by decide) (by decide)
  obtain ⟨o, mo, eo, _⟩ := pick_any (b := true) (xs := [.int 0, .int 1, .int 1, .int 2, .int q]) rfl d0 (by simpa using d1)
  have om : ∃ m : Int, o = .int m ∧ 0 ≤ m ∧ m ≤ 8 := by
    simp only [List.mem_cons, List.not_mem_nil, or_false] at mo
    rcases mo with rfl | rfl | rfl | rfl | rfl
    · exact ⟨_, rfl, by decide, by decide⟩
    · exact ⟨_, rfl, by decide, by decide⟩
    · exact ⟨_, rfl, by decide, by decide⟩
    · exact ⟨_, rfl, by decide, by decide⟩
    · exact ⟨_, rfl, by omega, by omega⟩
  obtain ⟨m, rfl, m0, m8⟩ := om
  obtain ⟨ρ', e3, p3, ts, k, ox, on, os, rfl, lts, hok, hsub, h3⟩ := loop_run (b := bN 4) (s := teB) (xs := (List.range m.toNat).map fun i => PV.int (i : Nat)) (ρ := TE4 p2 ws b is [] none none none none)
    (fun i ρ => ∃ p ts k ox on os, ρ = TE4 p ws b is ts k ox on os ∧ ts.length ≤ i ∧ (∀ t ∈ ts, TOk t) ∧ (∀ t ∈ ts, t.n ∈ ws) ∧ Pot p (n + 30 - 3 * i))
    ⟨p2, [], none, none, none, none, rfl, by simp, by simp, by simp, h2.less (by omega) (by omega)⟩ fun i x ρ hx hp => by
      obtain ⟨p, ts, k, ox, on, os, rfl, lts, hok, hsub, hq⟩ := hp
      obtain ⟨hlt, rfl⟩ := range_get hx
      obtain ⟨x, m', ts', p', e, mx, hts, h'⟩ := tests_turn (n := n + 30 - 3 * ((i + 1 : Nat) : Int)) (ws := ws) (b := b) (is := is) (ts := ts) (k := some (.int (i : Nat))) (ox := ox) (on := on) (os := os) (hq.less (by omega) (by omega)) (by omega) hw l1 (by omega) hi i1 i9 (by omega)
      refine ⟨_, rfl, .inl ⟨_, e, p', ts', _, _, _, _, rfl, ?_, ?_, ?_, h'⟩⟩
      · rcases hts with rfl | ⟨t, rfl, _⟩
        · omega
        · simp; omega
      · rcases hts with rfl | ⟨t, rfl, tk, _⟩
        · exact hok
        · intro u hu
          rcases List.mem_append.mp hu with z | z
          · exact hok u z
          · rw [List.mem_singleton.mp z]; exact tk
      · rcases hts with rfl | ⟨t, rfl, _, tk⟩
        · exact hsub
        · intro u hu
          rcases List.mem_append.mp hu with z | z
          · exact hsub u z
          · rw [List.mem_singleton.mp z]; exact tk
  simp only [List.length_map, List.length_range] at lts h3
  refine ⟨ts, p3, ?_, hok, hsub, by omega, h3.less hn (by omega)⟩
  have ow := h.own
  have ow1 := h1.own
  have ow3 := h3.own
  have hr : iRange1 (eP2 ix (.ev (eLst (aCons (eC (.int 0)) (aCons (eC (.int 1)) (aCons (eC (.int 1)) (aCons (eC (.int 2)) (aCons (eCall f__law_draw [(.nm 0), (.ev (eC (.int 9)))] []) aNil))))))) (.ev (eCall f__law_draw [(.nm 0), (.ev (eC (.int 5)))] []))) (TE4 p ws b is [] none none none none) = .ok ((List.range m.toNat).map fun i => PV.int (i : Nat)) (TE4 p2 ws b is [] none none none none) :=
    range1_run (n := m) (by simp -implicitDefEqProofs [e1, e2, eo, ow, ow1, -ix_l]) (by omega) (by omega)
  have e4 := sFor_run hr e3
  unfold teB at e4
  have tp : fTuple (.lst true (ts.map tv)) = some (.tup (ts.map tv)) := by
    show (if fros (ts.map tv) = true then some (PV.tup (ts.map tv)) else none) = _
    rw [if_pos (fros_tv ts)]
  simp only [f__law_tests, b__law_tests]
  rw [mk_eq rfl]
  simp -implicitDefEqProofs only [List.map_cons, List.map_nil, List.length_cons, List.length_nil, List.cons_append, List.nil_append, List.replicate]
  rw [seq_nx (ρ1 := TE4 p ws b is [] none none none none) (by simp -implicitDefEqProofs) rfl, seq_nx e4 rfl]
  simp -implicitDefEqProofs [tp, ow3]
end
end Law
set_option Elab.async false
set_option linter.all false
set_option maxRecDepth 100000
set_option maxHeartbeats 2000000
/-! k14: what no sending may show, drawn. -/
namespace Law
open PySem (Str)
open Tr Tr.Ev
theorem slg_to {xs : List PV} (f : fros xs = true) {i : Int} (h0 : 0 ≤ i) (h1 : i ≤ xs.length) : sl (.tup xs) none (some i) = some (.tup (xs.take i.toNat)) := by
  show (if fros xs = true then some (PV.tup (cut xs none (some i))) else none) = _
  rw [if_pos f]
  have e1 : sIx xs.length xs.length (some i) = i.toNat := by
    show (if i < 0 then _ else min i.toNat xs.length) = _
    rw [if_neg (by omega)]; omega
  unfold cut
  rw [e1]
  show some (PV.tup (List.take (i.toNat - 0) (List.drop 0 xs))) = _
  rw [List.drop_zero, Nat.sub_zero]
theorem slg_fr {xs : List PV} (f : fros xs = true) {i : Int} (h0 : 0 ≤ i) (h1 : i ≤ xs.length) : sl (.tup xs) (some i) none = some (.tup (xs.drop i.toNat)) := by
  show (if fros xs = true then some (PV.tup (cut xs (some i) none)) else none) = _
  rw [if_pos f]
  have e1 : sIx xs.length 0 (some i) = i.toNat := by
    show (if i < 0 then _ else min i.toNat xs.length) = _
    rw [if_neg (by omega)]; omega
  unfold cut
  rw [e1]
  show some (PV.tup (List.take (xs.length - i.toNat) (List.drop i.toNat xs))) = _
  rw [List.take_of_length_le (by simp)]
theorem fros_take {xs : List PV} (f : fros xs = true) (k : Nat) : fros (xs.take k) = true := by
  rw [fros_eq, List.all_eq_true] at *
  exact fun x hx => f x (List.mem_of_mem_take hx)
theorem fros_drop {xs : List PV} (f : fros xs = true) (k : Nat) : fros (xs.drop k) = true := by
  rw [fros_eq, List.all_eq_true] at *
  exact fun x hx => f x (List.mem_of_mem_drop hx)
def O10 : List PV := [.non, .bl true, .int 0, .int (-1), .str "", .str "1", .lst false [], .tup [], .dct false [] [], .int 1000000001]
theorem o10_grain {o : PV} (h : o ∈ O10) : Sy f_is_grain o false := by
  simp only [O10, List.mem_cons, List.not_mem_nil, or_false] at h
  rcases h with rfl | rfl | rfl | rfl | rfl | rfl | rfl | rfl | rfl | rfl
  · exact grain_nw rfl
  · exact grain_nw rfl
  · exact grain_no (.inl (by decide))
  · exact grain_no (.inl (by decide))
  · exact grain_nw rfl
  · exact grain_nw rfl
  · exact grain_nw rfl
  · exact grain_nw rfl
  · exact grain_nw rfl
  · exact grain_no (.inr (by decide))
theorem o10_show {o : PV} (h : o ∈ O10) : Sy f_is_show o false := by
  simp only [O10, List.mem_cons, List.not_mem_nil, or_false] at h
  rcases h with rfl | rfl | rfl | rfl | rfl | rfl | rfl | rfl | rfl | rfl
  · exact show_nt rfl rfl
  · exact show_nt rfl rfl
  · exact show_nt rfl rfl
  · exact show_nt rfl rfl
  · exact show_nt rfl rfl
  · exact show_nt rfl rfl
  · exact show_nt rfl rfl
  · exact show_len rfl (by decide)
  · exact show_nt rfl rfl
  · exact show_nt rfl rfl
def B10 (x : Str) : List PV := [.str "Aa", .str "", .str "abcdefghi", .str "a b", .str "a1", .non, .int 1, .bl true, .tup [.str "a"], .lst false [.str x]]
theorem b10_item {x : Str} {o : PV} (h : o ∈ B10 x) : Sy f_is_item o false := by
  simp only [B10, List.mem_cons, List.not_mem_nil, or_false] at h
  rcases h with rfl | rfl | rfl | rfl | rfl | rfl | rfl | rfl | rfl | rfl
  · exact ⟨by rfl, rfl⟩
  · exact ⟨by rfl, rfl⟩
  · exact ⟨by rfl, rfl⟩
  · exact ⟨by rfl, rfl⟩
  · exact ⟨by rfl, rfl⟩
  · exact ⟨odd_of rfl rfl, rfl⟩
  · exact ⟨odd_of rfl rfl, rfl⟩
  · exact ⟨odd_of rfl rfl, rfl⟩
  · exact ⟨odd_of rfl rfl, rfl⟩
  · exact ⟨odd_of rfl rfl, rfl⟩
def W9 (x : Str) (g : Int) (o bd : PV) : List PV := [.tup [.str x, o], .tup [bd, .int g], .tup [.str x], .tup [.str x, .int g, .int 1], .lst false [.str x, .int g], .str x, o, .tup [.str "key", .int 2], .tup [.str x, o]]
theorem w9_show {x : Str} {g : Int} {o bd v : PV} (hx : WOk x ∨ x = ("key" : Str)) (g1 : 1 ≤ g) (g9 : g ≤ 1000000000) (ho : o ∈ O10) (hb : bd ∈ B10 x) (h : v ∈ W9 x g o bd) : Sy f_is_show v false := by
  have i1 : Sy f_is_item (.str x) true := ⟨item_ok hx, rfl⟩
  simp only [W9, List.mem_cons, List.not_mem_nil, or_false] at h
  rcases h with rfl | rfl | rfl | rfl | rfl | rfl | rfl | rfl | rfl
  · exact show_pair i1 (o10_grain ho) rfl
  · exact show_pair (b10_item hb) (grain_ok g1 g9) rfl
  · exact show_len rfl (by simp)
  · exact show_len rfl (by simp)
  · exact show_nt rfl rfl
  · exact show_nt rfl rfl
  · exact o10_show ho
  · exact show_key2
  · exact show_pair i1 (o10_grain ho) rfl
/-- one wrong thing among good ones -/
theorem one_wrong {ps qs : List Sh} {o : PV} (h1 : ∀ p ∈ ps, ShOk p) (h2 : ∀ p ∈ qs, ShOk p) (ho : Sy f_is_show o false) : Sy f_are_shown (.tup (ps.map sh ++ [o] ++ qs.map sh)) false := by
  have e : (ps.map (fun p => (sh p, true)) ++ [(o, false)] ++ qs.map (fun p => (sh p, true))).map (·.1) = ps.map sh ++ [o] ++ qs.map sh := by
    simp [List.map_append, List.map_map, Function.comp_def]
  rw [← e]
  refine shown_one (fun z hz => ?_) (by simp)
  rcases List.mem_append.mp hz with hz | hz
  · rcases List.mem_append.mp hz with hz | hz
    · obtain ⟨p, hp, rfl⟩ := List.mem_map.mp hz
      exact show_ok (h1 p hp)
    · rw [List.mem_singleton.mp hz]; exact ho
  · obtain ⟨p, hp, rfl⟩ := List.mem_map.mp hz
    exact show_ok (h2 p hp)
def E8 : List Nat := [104, 103, 102, 101, 100, 99, 98, 97]
def eight : List Sh := E8.map fun c => (⟨#[c]⟩, 1)
theorem e8_list : ("hgfedcba" : Str).cps.toList = E8 := by decide +kernel
theorem eight_len : (eight.map sh).length = 8 := by simp [eight, E8]
def wsT : SF := (sSeq (sIf (tPV2 cLt (.nm 3) (.ev (eC (.int 9)))) (sRet (eP2 bAdd (.ev (eP2 bAdd (.ev (eSl (.nm 1) none (some (eNm 2)))) (.ev (eTup (aCons (eP2 ix (.nm 8) (.nm 3)) aNil))))) (.ev (eSl (.nm 1) (some (eP2 bAdd (.nm 2) (.ev (eC (.int 1))))) none)))) sNx)
    (sSeq (sSet 9 (eP1 fTuple (.ev (eComp [11] (iS (eC (.str "hgfedcba"))) (bN 11) tYes (eTup (aCons (eNm 11) (aCons (eC (.int 1)) aNil)))))))
    (sSeq (sSet 10 (eP2 bAdd (.ev (eP2 bAdd (.ev (eSl (.nm 1) none (some (eNm 2)))) (.ev (eTup (aCons (eP2 ix (.nm 1) (.nm 2)) aNil))))) (.ev (eSl (.nm 1) (some (eNm 2)) none))))
    (sRet (eP2 ix (.ev (eFrz (eLst (aCons (eNm 10) (aCons (eFrz (eP1 fList (.nm 1))) (aCons (eTup aNil) (aCons (eNm 9) (aCons (eC .non) (aCons (eNm 4) (aCons (eP2 ix (.nm 1) (.nm 2)) aNil)))))))))) (.ev (eP2 bSub (.nm 3) (.ev (eC (.int 9))))))))))
abbrev WE (p L : PV) (k wy : Int) (x : Str) (g : Int) (o bd S : PV) (a b : Option PV) : Env := [some p, some L, some (.int k), some (.int wy), some (.str x), some (.int g), some o, some bd, some S, a, b, none]
section
variable {p L : PV} {k wy : Int} {x : Str} {g : Int} {o bd S : PV}
theorem wsT_9 {v W C A B : PV} (c : wy < 9) (e : ix S (.int wy) = some v) (zv : frz v = v) (s1 : sl L none (some k) = some A) (s2 : sl L (some (k + 1)) none = some B) (a1 : bAdd A (.tup [v]) = some C) (a2 : bAdd C B = some W) :
    wsT (WE p L k wy x g o bd S none none) = .rt W (WE p L k wy x g o bd S none none) := by
  unfold wsT
  simp -implicitDefEqProofs [c, e, s1, s2, a1, a2, -ix_l, -ix_t]
theorem eight_run {L S : PV} {k wy : Int} : eP1 fTuple (.ev (eComp [11] (iS (eC (.str "hgfedcba"))) (bN 11) tYes (eTup (aCons (eNm 11) (aCons (eC (.int 1)) aNil))))) (WE p L k wy x g o bd S none none) = .ok (.tup (eight.map sh)) (WE p L k wy x g o bd S none none) := by
  have hw := iS_run (f := eC (.str "hgfedcba")) (ρ := WE p L k wy x g o bd S none none) (z := "hgfedcba") rfl
  rw [e8_list] at hw
  have core := comp_pure (own := [11]) (b := bN 11) (t := tYes) (f := eTup (aCons (eNm 11) (aCons (eC (.int 1)) aNil))) (ρ := WE p L k wy x g o bd S none none) ch (fun _ => true) (fun c => PV.tup [ch c, .int 1]) (l := E8) fun c _ =>
    ⟨[some p, some L, some (.int k), some (.int wy), some (.str x), some (.int g), some o, some bd, some S, none, none, some (ch c)], _, rfl, rfl, (fun h => by cases h), fun _ => ⟨[some p, some L, some (.int k), some (.int wy), some (.str x), some (.int g), some o, some bd, some S, none, none, some (ch c)], by simp -implicitDefEqProofs, by simp⟩⟩
  have e2 := eComp_run (own := [11]) hw core
  have e3 : ((E8.filter fun _ => true).map fun c => PV.tup [ch c, .int 1]) = eight.map sh := by
    rw [filter_t]
    unfold eight
    rw [List.map_map]
    rfl
  have fe : fTuple (.lst true (eight.map sh)) = some (.tup (eight.map sh)) := by
    show (if fros (eight.map sh) = true then some (PV.tup (eight.map sh)) else none) = _
    rw [if_pos (fros_shs _)]
  rw [e3] at e2
  rw [eP1_eq, go_ev, e2]
  generalize eight.map sh = E at fe ⊢
  simp -implicitDefEqProofs [fe]
theorem wsT_e {v T F A B C M : PV} (c : ¬ wy < 9) (s1 : sl L none (some k) = some A) (s3 : sl L (some k) none = some B) (gt : ix L (.int k) = some M) (fm : fro M = true) (a1 : bAdd A (.tup [M]) = some C) (a2 : bAdd C B = some T) (fl : fList L = some F) (ft : fro T = true)
    (e : ix (.lst false [T, frz F, .tup [], .tup (eight.map sh), .non, .str x, M]) (.int (wy - 9)) = some v) (fx : fros [T, frz F, .tup [], .tup (eight.map sh), .non, .str x, M] = true) :
    wsT (WE p L k wy x g o bd S none none) = .rt v (WE p L k wy x g o bd S (some (.tup (eight.map sh))) (some T)) := by
  have zT : frz T = T := frz_of_fro ft
  have zM : frz M = M := frz_of_fro fm
  have z8 : frzs (eight.map sh) = eight.map sh := frzs_of_fros (fros_shs eight)
  have sb : bSub (.int wy) (.int 9) = some (.int (wy - 9)) := rfl
  unfold wsT
  rw [seq_nx (ρ1 := WE p L k wy x g o bd S none none) (by simp -implicitDefEqProofs [c]) rfl,
    seq_nx (ρ1 := WE p L k wy x g o bd S (some (.tup (eight.map sh))) none) (by rw [sSet_eq, eight_run]; simp -implicitDefEqProofs) rfl]
  generalize eight.map sh = E8 at e z8 fx ⊢
  rw [seq_nx (ρ1 := WE p L k wy x g o bd S (some (.tup E8)) (some T)) (by simp -implicitDefEqProofs [s1, s3, gt, a1, a2, -ix_l, -ix_t]) rfl]
  have zf : frz (frz F) = frz F := frz_of_fro (fro_frz F)
  simp -implicitDefEqProofs [zT, zM, z8, zf, fl, gt, sb, e, -ix_l, -ix_t]
end
section
variable {p : PV} {n : Int} {ps : List Sh}
theorem wrong_shown_draw (h : Pot p (n + 10)) (hn : 0 ≤ n) (hp : ShsOk ps) :
    ∃ (v p' : PV), f__law_wrong_shown [p, .tup (ps.map sh)] = .ok v [p', .tup (ps.map sh)] ∧ Sy f_are_shown v false ∧ Pot p' n := by
  have l1 := hp.l1
  have l7 := hp.l7
  obtain ⟨k, p1, e1, k0, k1, h1⟩ := draw_ok (n := n + 5) (m := (ps.length : Nat)) (h.less (by omega) (by omega)) (by omega) (by omega) (by omega)
  obtain ⟨wy, p2, e2, y0, y1, h2⟩ := draw_ok (n := n + 4) (m := 16) (h1.less (by omega) (by omega)) (by omega) (by decide) (by decide)
  obtain ⟨d, p3, e3, d0, d1, h3⟩ := draw_ok (n := n + 3) (m := 10) (h2.less (by omega) (by omega)) (by omega) (by decide) (by decide)
  obtain ⟨q, p4, e4, q0, q1, h4⟩ := draw_ok (n := n) (m := 10) (h3.less (by omega) (by omega)) (by omega) (by decide) (by decide)
  have kn : k.toNat < ps.length := by omega
  obtain ⟨z, hz⟩ : ∃ z, z = ps[k.toNat] := ⟨_, rfl⟩
  have mz : z ∈ ps := by rw [hz]; exact List.getElem_mem _
  obtain ⟨x, g⟩ := z
  have oz := hp.a _ mz
  have fx := fros_shs ps
  have lx : (ps.map sh).length = ps.length := List.length_map _
  have gt : ix (.tup (ps.map sh)) (.int k) = some (.tup [.str x, .int g]) := by
    obtain ⟨y, hy, hat⟩ := at_list (xs := ps.map sh) k0 (by rw [lx]; omega)
    rw [List.getElem?_map, List.getElem?_eq_getElem kn, ← hz] at hy
    cases hy
    show (atI _ _).bind onlyFro = _
    rw [hat]; rfl
  obtain ⟨o, mo, eo, fo⟩ := pick_any (b := false) (xs := O10) rfl d0 d1
  obtain ⟨bd, mb, eb, fb⟩ := pick_any (b := false) (xs := B10 x) rfl q0 q1
  have s1 := slg_to fx k0 (by rw [lx]; omega)
  have s2 := slg_fr fx (i := k + 1) (by omega) (by rw [lx]; omega)
  have s3 := slg_fr fx (i := k) (by omega) (by rw [lx]; omega)
  have t2 : (k + 1).toNat = k.toNat + 1 := by omega
  rw [t2] at s2
  rw [← List.map_take] at s1
  rw [← List.map_drop] at s2 s3
  have w := h.own
  have w1 := h1.own
  have w2 := h2.own
  have w3 := h3.own
  have w4 := h4.own
  have zo : frz o = o := frz_of_fro fo
  have zb : frz bd = bd := frz_of_fro fb
  have len : fLen (.tup (ps.map sh)) = some (.int (ps.length : Nat)) := by
    show some (PV.int ((ps.map sh).length : Nat)) = _
    rw [lx]
  have fw : fros (W9 x g o bd) = true := by simp [W9, fo, fb]
  have a8 : bAdd (.lst true [PV.tup [.str x, o], .tup [bd, .int g], .tup [.str x], .tup [.str x, .int g, .int 1], .lst false [.str x, .int g], .str x, o]) (.lst true [PV.tup [.str "key", .int 2], .tup [.str x, o]]) = some (.lst true (W9 x g o bd)) := by
    show (if (fros _ && fros _ && decide (_ ≤ big)) = true then _ else _) = _
    rw [if_pos (by simp [fo, fb]; unfold big; omega)]
    rfl
  have tp : ∀ {v : PV} {S : SF} {a b : Option PV}, fro (.tup (ps.map sh)) = true := fun {_ _ _ _} => by simp [fx]
  simp only [O10] at eo
  simp only [B10] at eb
  have st : ∀ {v : PV} {a b : Option PV}, wsT (WE p4 (.tup (ps.map sh)) k wy x g o bd (.lst true (W9 x g o bd)) none none) = .rt v (WE p4 (.tup (ps.map sh)) k wy x g o bd (.lst true (W9 x g o bd)) a b) → f__law_wrong_shown [p, .tup (ps.map sh)] = .ok v [p4, .tup (ps.map sh)] := fun {v a b} hr => by
    unfold wsT at hr
    simp only [f__law_wrong_shown, b__law_wrong_shown]
    rw [mk_eq rfl]
    simp -implicitDefEqProofs only [List.map_cons, List.map_nil, List.length_cons, List.length_nil, List.cons_append, List.nil_append, List.replicate]
    generalize PV.tup (ps.map sh) = L at e1 gt len s1 s2 s3 hr ⊢
    rw [seq_nx (ρ1 := [some p2, some L, some (.int k), some (.int wy), none, none, none, none, none, none, none, none]) (by simp -implicitDefEqProofs [e1, e2, len, w, w1]) rfl,
      seq_nx (ρ1 := [some p2, some L, some (.int k), some (.int wy), some (.str x), some (.int g), none, none, none, none, none, none]) (by simp -implicitDefEqProofs [gt, -ix_t]) rfl,
      seq_nx (ρ1 := [some p3, some L, some (.int k), some (.int wy), some (.str x), some (.int g), some o, none, none, none, none, none]) (by simp -implicitDefEqProofs [e3, eo, e9, w2, -ix_l]) rfl,
      seq_nx (ρ1 := [some p4, some L, some (.int k), some (.int wy), some (.str x), some (.int g), some o, some bd, none, none, none, none]) (by simp -implicitDefEqProofs [e4, eb, w3, -ix_l]) rfl,
      seq_nx (ρ1 := [some p4, some L, some (.int k), some (.int wy), some (.str x), some (.int g), some o, some bd, some (.lst true [PV.tup [.str x, o], .tup [bd, .int g], .tup [.str x], .tup [.str x, .int g, .int 1], .lst false [.str x, .int g], .str x, o]), none, none, none]) (by simp -implicitDefEqProofs [zo, zb]) rfl,
      seq_nx (ρ1 := [some p4, some L, some (.int k), some (.int wy), some (.str x), some (.int g), some o, some bd, some (.lst true (W9 x g o bd)), none, none, none]) (by simp -implicitDefEqProofs [a8, zo]) rfl, hr]
    simp -implicitDefEqProofs [w4]
  by_cases c : wy < 9
  · obtain ⟨v9, m9, e9', f9⟩ := pick_any (b := true) (xs := W9 x g o bd) fw y0 (by show wy < 9; exact c)
    have bad := w9_show oz.i oz.g1 oz.g9 mo mb m9
    have W := one_wrong (ps := ps.take k.toNat) (qs := ps.drop (k.toNat + 1)) (fun p hp' => hp.a p (List.mem_of_mem_take hp')) (fun p hp' => hp.a p (List.mem_of_mem_drop hp')) bad
    have a1 : bAdd (.tup ((ps.take k.toNat).map sh)) (.tup [v9]) = some (.tup ((ps.take k.toNat).map sh ++ [v9])) := addf (fros_shs _) (by simp [f9]) (by simp; unfold big; omega)
    have a2 : bAdd (.tup ((ps.take k.toNat).map sh ++ [v9])) (.tup ((ps.drop (k.toNat + 1)).map sh)) = some (.tup ((ps.take k.toNat).map sh ++ [v9] ++ (ps.drop (k.toNat + 1)).map sh)) := addf (fros_app (fros_shs _) (by simp [f9])) (fros_shs _) (by simp; unfold big; omega)
    exact ⟨_, p4, st (wsT_9 c e9' (frz_of_fro f9) s1 s2 a1 a2), W, h4⟩
  · obtain ⟨T, hT⟩ : ∃ T, T = PV.tup ((ps.take k.toNat ++ [(x, g)] ++ ps.drop k.toNat).map sh) := ⟨_, rfl⟩
    have a1 : bAdd (.tup ((ps.take k.toNat).map sh)) (.tup [.tup [.str x, .int g]]) = some (.tup ((ps.take k.toNat ++ [(x, g)]).map sh)) := by
      rw [List.map_append]
      exact addf (fros_shs _) rfl (by simp; unfold big; omega)
    have a2 : bAdd (.tup ((ps.take k.toNat ++ [(x, g)]).map sh)) (.tup ((ps.drop k.toNat).map sh)) = some T := by
      have : (ps.take k.toNat ++ [(x, g)] ++ ps.drop k.toNat).map sh = (ps.take k.toNat ++ [(x, g)]).map sh ++ (ps.drop k.toNat).map sh := List.map_append
      rw [hT, this]
      exact addf (fros_shs _) (fros_shs _) (by simp; unfold big; omega)
    have bT : Sy f_are_shown T false := by
      rw [hT]
      refine shown_twice (fun q hq => ?_) ?_ (by simp; omega)
      · rcases List.mem_append.mp hq with z | z
        · rcases List.mem_append.mp z with z | z
          · exact hp.a q (List.mem_of_mem_take z)
          · rw [List.mem_singleton.mp z]; exact oz
        · exact hp.a q (List.mem_of_mem_drop z)
      · rw [List.drop_eq_getElem_cons kn, ← hz]
        intro nd
        simp only [List.map_append, List.map_cons, List.append_assoc] at nd
        exact (List.nodup_cons.mp (List.nodup_append.mp nd).2.1).1 (by simp)
    have fl : fList (.tup (ps.map sh)) = some (.lst true (ps.map sh)) := by
      show (if fros (ps.map sh) = true then _ else _) = _
      rw [if_pos fx]
    have zF : frz (.lst true (ps.map sh)) = .lst false (ps.map sh) := by rw [frz, frzs_of_fros fx]
    have b2 : Sy f_are_shown (.lst false (ps.map sh)) false := shown_nt rfl (by simp [fx])
    have b3 : Sy f_are_shown (.tup []) false := shown_len rfl (.inl (by decide))
    have b4 : Sy f_are_shown (.tup (eight.map sh)) false := shown_len (fros_shs _) (.inr (by rw [eight_len]; decide))
    have b5 : Sy f_are_shown .non false := shown_nt rfl rfl
    have b6 : Sy f_are_shown (.str x) false := shown_nt rfl rfl
    have b7 : Sy f_are_shown (.tup [.str x, .int g]) false := shown_one (zs := [(.str x, false), (.int g, false)]) (fun z hz => by
      simp only [List.mem_cons, List.not_mem_nil, or_false] at hz
      rcases hz with rfl | rfl
      · exact show_nt rfl rfl
      · exact show_nt rfl rfl) rfl
    have all : ∀ v ∈ [T, .lst false (ps.map sh), .tup [], .tup (eight.map sh), .non, .str x, .tup [.str x, .int g]], Sy f_are_shown v false := fun v hv => by
      simp only [List.mem_cons, List.not_mem_nil, or_false] at hv
      rcases hv with e | e | e | e | e | e | e <;> rw [e] <;> assumption
    have fal : fros [T, .lst false (ps.map sh), .tup [], .tup (eight.map sh), .non, .str x, .tup [.str x, .int g]] = true := by
      rw [fros_eq, List.all_eq_true]
      exact fun v hv => (all v hv).fr
    obtain ⟨v, mv, ev, fv⟩ := pick_any (b := false) (d := wy - 9) fal (by omega) (by simp; omega)
    refine ⟨v, p4, st (wsT_e c s1 s3 gt rfl a1 a2 fl bT.fr ?_ ?_), all v mv, h4⟩
    · rw [zF]; exact ev
    · rw [zF]; exact fal
end
end Law
set_option Elab.async false
set_option linter.all false
set_option maxRecDepth 100000
set_option maxHeartbeats 2000000
/-! k14: what are no tests, drawn. -/
namespace Law
open PySem (Str)
open Tr Tr.Ev
theorem t_nt {v : PV} (h : isA .tuple v = some false) (fv : fro v = true) : Sy f_is_test v false := ⟨by
  simp only [f_is_test, b_is_test]
  rw [mk_eq rfl]
  simp -implicitDefEqProofs [h], fv⟩
theorem t_len {xs : List PV} (f : fros xs = true) (h : xs.length < 2) : Sy f_is_test (.tup xs) false := ⟨by
  have n : (xs.length : Int) < 2 := by omega
  simp only [f_is_test, b_is_test]
  rw [mk_eq rfl]
  simp -implicitDefEqProofs [n], by simp [f]⟩
theorem t_nostr {a b c : PV} (f : fros [a, b, c] = true) (h : isA .str a = some false) : Sy f_is_test (.tup [a, b, c]) false := ⟨by
  simp [fros] at f
  have oa : onlyFro a = some a := onlyFro_t f.1
  simp only [f_is_test, b_is_test]
  rw [mk_eq rfl]
  simp -implicitDefEqProofs [oa, h], by simpa using f⟩
theorem t_name {w : Str} {b : PV} {xs : List PV} (h : Sy f_is_name b false) (f : fros xs = true) : Sy f_is_test (.tup (.str w :: b :: xs)) false := ⟨by
  have e := h.e
  have fb := h.fr
  have ob : onlyFro b = some b := onlyFro_t fb
  have n : ¬ ((xs.length : Int) + 1 + 1 < 2) := by omega
  simp only [f_is_test, b_is_test]
  rw [mk_eq rfl]
  simp -implicitDefEqProofs [e, ob, fb, n], by simp [h.fr, f]⟩
theorem t_two {w x : Str} {xs : List PV} (hx : WOk x) (hw : w ≠ ("filled" : Str)) (f : fros xs = true) (l : xs.length ≠ 1) : Sy f_is_test (.tup (.str w :: .str x :: xs)) false := ⟨by
  have e := name_ok hx
  have n : ¬ ((xs.length : Int) + 1 + 1 < 2) := by omega
  have n3 : ¬ ((xs.length : Int) + 1 + 1 = 3) := by omega
  simp only [f_is_test, b_is_test]
  rw [mk_eq rfl]
  simp -implicitDefEqProofs [e, n, eq_ss, hw, ne_ii, n3], by simp [f]⟩
theorem t_fill {x : Str} {c : PV} (hx : WOk x) (f : fro c = true) : Sy f_is_test (.tup [.str "filled", .str x, c]) false := ⟨by
  have e := name_ok hx
  simp only [f_is_test, b_is_test]
  rw [mk_eq rfl]
  simp -implicitDefEqProofs [e, eq_ss, eq_ii], by simp [f]⟩
theorem t_is {x : Str} {c : PV} (hx : WOk x) (h : BadC c) : Sy f_is_test (.tup [.str "is", .str x, c]) false := ⟨by
  have e := name_ok hx
  have e2 := icell_bad h
  have fc := h.fro
  have oc : onlyFro c = some c := onlyFro_t fc
  simp only [f_is_test, b_is_test]
  rw [mk_eq rfl]
  simp -implicitDefEqProofs [e, e2, eq_ss, ne_ii, d_if, fc, oc], by simp [h.fro]⟩
theorem t_bf {w x : Str} {c : PV} (hx : WOk x) (h : Sy f_is_number c false) (d1 : w ≠ ("filled" : Str)) (d2 : w ≠ ("is" : Str)) (hm : w ∈ BF2) : Sy f_is_test (.tup [.str w, .str x, c]) false := ⟨by
  have e := name_ok hx
  have e2 := h.e
  have fc := h.fr
  have oc : onlyFro c = some c := onlyFro_t fc
  simp only [f_is_test, b_is_test]
  rw [mk_eq rfl]
  simp -implicitDefEqProofs [e, e2, eAnd, eq_ss, ne_ii, d1, d2, in_bf, hm, fc, oc, -List.mem_cons], by simp [h.fr]⟩
theorem t_odd {w x : Str} {c : PV} (hx : WOk x) (fc : fro c = true) (d1 : w ≠ ("filled" : Str)) (d2 : w ≠ ("is" : Str)) (hm : ¬ w ∈ BF2) : Sy f_is_test (.tup [.str w, .str x, c]) false := ⟨by
  have e := name_ok hx
  simp only [f_is_test, b_is_test]
  rw [mk_eq rfl]
  simp -implicitDefEqProofs [e, eAnd, eq_ss, ne_ii, d1, d2, in_bf, hm, fc, -List.mem_cons], by simp [fc]⟩
theorem num_nw {v : PV} (h : nw v = true) : Sy f_is_number v false := ⟨by
  have e := whole_no h
  have fr := nw_fro h
  simp only [f_is_number, b_is_number]
  rw [mk_eq rfl]
  simp -implicitDefEqProofs [eAnd, e, fr], nw_fro h⟩
theorem num_no {i : Int} (h : i < 0 ∨ TOP ≤ i) : Sy f_is_number (.int i) false := ⟨by
  simp only [f_is_number, b_is_number]
  rw [mk_eq rfl]
  by_cases q : 0 ≤ i
  · have q2 : ¬ i < 1000000000000000000000000000000 := by have := TOPv; omega
    simp -implicitDefEqProofs [eAnd, whole_ok, q, q2]
  · simp -implicitDefEqProofs [eAnd, whole_ok, q], rfl⟩
theorem name_nw {v : PV} (h : isA .str v = some false) (fv : fro v = true) : Sy f_is_name v false := ⟨by
  simp only [f_is_name, b_is_name]
  rw [mk_eq rfl]
  simp -implicitDefEqProofs [h], fv⟩
def X26 (x : Str) (m : Int) : List PV :=
  [.tup [.str "is", .str "key", .int m], .tup [.str "is", .str x], .tup [.str "is", .str x, .int (-1 - m)], .tup [.str "is", .str x, .bl true],
   .tup [.str "is", .str x, .int 1000000000000000000000000000000], .tup [.str "is", .str x, .str "1"], .tup [.str "below", .str x, .non], .tup [.str "below", .str x, .int (-1)],
   .tup [.str "from", .str x, .int (1000000000000000000000000000000 + m)], .tup [.str "from", .str x], .tup [.str "filled", .str x, .int m], .tup [.str "filled"],
   .tup [.str "odd", .str x, .int m], .tup [.str "", .str x, .int m], .tup [.non, .str x, .int 1], .tup [.int 1, .str x, .int 1],
   .lst false [.str "filled", .str x], .str "filled", .non, .tup [], .tup [.str "filled", .str "Aa"], .tup [.str "filled", .int 1], .tup [.lst false [.str "is"], .str x, .int 1],
   .tup [.str "filled", .str "key"], .tup [.str "from", .str x, .bl false], .tup [.str "is", .str x, .int 1, .int 1]]
theorem badc_nw {v : PV} (h : nw v = true) (ne : v ≠ .non) : BadC v := ⟨.inr ⟨h, ne⟩⟩
theorem x26_test {x : Str} {m : Int} {v : PV} (hx : WOk x) (m0 : 0 ≤ m) (h : v ∈ X26 x m) : Sy f_is_test v false := by
  have nk : Sy f_is_name (.str "key") false := ⟨name_key, rfl⟩
  have nA : Sy f_is_name (.str "Aa") false := ⟨by rfl, rfl⟩
  have n1 : Sy f_is_name (.int 1) false := name_nw rfl rfl
  simp only [X26, List.mem_cons, List.not_mem_nil, or_false] at h
  rcases h with rfl | rfl | rfl | rfl | rfl | rfl | rfl | rfl | rfl | rfl | rfl | rfl | rfl | rfl | rfl | rfl | rfl | rfl | rfl | rfl | rfl | rfl | rfl | rfl | rfl | rfl
  · exact t_name nk rfl
  · exact t_two hx d_if rfl (by simp)
  · exact t_is hx ⟨.inl ⟨_, rfl, .inl (by omega)⟩⟩
  · exact t_is hx (badc_nw rfl (fun e => by cases e))
  · exact t_is hx ⟨.inl ⟨_, rfl, .inr (by decide)⟩⟩
  · exact t_is hx (badc_nw rfl (fun e => by cases e))
  · exact t_bf hx (num_nw rfl) d_bf d_bi m_b
  · exact t_bf hx (num_no (.inl (by decide))) d_bf d_bi m_b
  · exact t_bf hx (num_no (.inr (by rw [TOPv]; omega))) d_ff d_fi m_f
  · exact t_two hx d_ff rfl (by simp)
  · exact t_fill hx rfl
  · exact t_len rfl (by simp)
  · exact t_odd hx rfl (by decide +kernel) (by decide +kernel) (by decide +kernel)
  · exact t_odd hx rfl (by decide +kernel) (by decide +kernel) (by decide +kernel)
  · exact t_nostr rfl rfl
  · exact t_nostr rfl rfl
  · exact t_nt rfl rfl
  · exact t_nt rfl rfl
  · exact t_nt rfl rfl
  · exact t_len rfl (by simp)
  · exact t_name nA rfl
  · exact t_name n1 rfl
  · exact t_nostr rfl rfl
  · exact t_name nk rfl
  · exact t_bf hx (num_nw rfl) d_ff d_fi m_f
  · exact t_two hx d_if rfl (by simp)
theorem one_wrong_t {ps qs : List Tst} {o : PV} (h1 : ∀ p ∈ ps, TOk p) (h2 : ∀ p ∈ qs, TOk p) (ho : Sy f_is_test o false) : Sy f_are_tests (.tup (ps.map tv ++ [o] ++ qs.map tv)) false := by
  have e : (ps.map (fun p => (tv p, true)) ++ [(o, false)] ++ qs.map (fun p => (tv p, true))).map (·.1) = ps.map tv ++ [o] ++ qs.map tv := by
    simp [List.map_append, List.map_map, Function.comp_def]
  have := tests_all (zs := ps.map (fun p => (tv p, true)) ++ [(o, false)] ++ qs.map (fun p => (tv p, true))) fun z hz => by
    rcases List.mem_append.mp hz with hz | hz
    · rcases List.mem_append.mp hz with hz | hz
      · obtain ⟨p, hp, rfl⟩ := List.mem_map.mp hz
        exact test_ok (h1 p hp)
      · rw [List.mem_singleton.mp hz]; exact ho
    · obtain ⟨p, hp, rfl⟩ := List.mem_map.mp hz
      exact test_ok (h2 p hp)
  rw [e] at this
  have e2 : ((ps.map (fun p => (tv p, true)) ++ [(o, false)] ++ qs.map (fun p => (tv p, true))).map (·.2)).all id = false := by simp
  rw [e2] at this
  exact this
end Law
set_option Elab.async false
set_option linter.all false
set_option maxRecDepth 100000
set_option maxHeartbeats 2000000
/-! k14: what are no tests, drawn: the whole. -/
namespace Law
open PySem (Str)
open Tr Tr.Ev
theorem lst_add {xs ys : List PV} {a b : Bool} (h1 : fros xs = true) (h2 : fros ys = true) (h : xs.length + ys.length ≤ big) : bAdd (.lst a xs) (.lst b ys) = some (.lst true (xs ++ ys)) := by
  show (if (fros xs && fros ys && decide (xs.length + ys.length ≤ big)) = true then _ else _) = _
  rw [if_pos (by rw [h1, h2]; simpa using h)]
def xA (x : Str) (m : Int) : List PV := [.tup [.str "is", .str "key", .int m], .tup [.str "is", .str x], .tup [.str "is", .str x, .int (-1 - m)], .tup [.str "is", .str x, .bl true]]
def xB (x : Str) (m : Int) : List PV := [.tup [.str "is", .str x, .int 1000000000000000000000000000000], .tup [.str "is", .str x, .str "1"], .tup [.str "below", .str x, .non], .tup [.str "below", .str x, .int (-1)]]
def xC (x : Str) (m : Int) : List PV := [.tup [.str "from", .str x, .int (1000000000000000000000000000000 + m)], .tup [.str "from", .str x], .tup [.str "filled", .str x, .int m], .tup [.str "filled"]]
def xD (x : Str) (m : Int) : List PV := [.tup [.str "odd", .str x, .int m], .tup [.str "", .str x, .int m], .tup [.non, .str x, .int 1], .tup [.int 1, .str x, .int 1]]
def xE (x : Str) : List PV := [.lst false [.str "filled", .str x], .str "filled", .non, .tup [], .tup [.str "filled", .str "Aa"], .tup [.str "filled", .int 1], .tup [.lst false [.str "is"], .str x, .int 1]]
def xF (x : Str) : List PV := [.tup [.str "filled", .str "key"], .tup [.str "from", .str x, .bl false], .tup [.str "is", .str x, .int 1, .int 1]]
theorem x26_eq {x : Str} {m : Int} : xA x m ++ xB x m ++ xC x m ++ xD x m ++ xE x ++ xF x = X26 x m := rfl
abbrev TW (p L : PV) (x : Str) (m wy : Int) (S : Option PV) (pl : Option PV) : Env := [some p, some L, some (.str x), some (.int m), some (.int wy), S, pl]
def twT : SF := (sSeq (sIf (tPV2 cLt (.nm 4) (.ev (eC (.int 26)))) (sSeq (sSet 6 (eCall f__law_draw [(.nm 0), (.ev (eP2 bAdd (.ev (eP1 fLen (.nm 1))) (.ev (eC (.int 1)))))] []))
    (sRet (eP2 bAdd (.ev (eP2 bAdd (.ev (eSl (.nm 1) none (some (eNm 6)))) (.ev (eTup (aCons (eP2 ix (.nm 5) (.nm 4)) aNil))))) (.ev (eSl (.nm 1) (some (eNm 6)) none))))) sNx)
    (sRet (eP2 ix (.ev (eFrz (eLst (aCons (eFrz (eP1 fList (.nm 1))) (aCons (eC .non) aNil))))) (.ev (eP2 bSub (.nm 4) (.ev (eC (.int 26))))))))
section
variable {p L : PV} {n m wy : Int} {x : Str} {ts : List Tst}
theorem tw_head {p2 : PV} (e : f__law_draw [p, .int 1000000000000000000000000000000] = .ok (.int m) [p2, .int 1000000000000000000000000000000]) {p3 : PV} (e2 : f__law_draw [p2, .int 28] = .ok (.int wy) [p3, .int 28]) (w : fro p = false) (w2 : fro p2 = false) :
    b__law_wrong_tests [some p, some L, some (.str x), none, none, none, none] = twT (TW p3 L x m wy (some (.lst true (X26 x m))) none) := by
  have f1 : fros (xA x m) = true := rfl
  have f2 : fros (xA x m ++ xB x m) = true := rfl
  have f3 : fros (xA x m ++ xB x m ++ xC x m) = true := rfl
  have f4 : fros (xA x m ++ xB x m ++ xC x m ++ xD x m) = true := rfl
  have f5 : fros (xA x m ++ xB x m ++ xC x m ++ xD x m ++ xE x) = true := rfl
  have bg : (60 : Nat) ≤ big := by unfold big; omega
  have a1 : bAdd (.lst true (xA x m)) (.lst true (xB x m)) = some (.lst true (xA x m ++ xB x m)) := lst_add f1 rfl (Nat.le_trans (by simp [xA, xB]) bg)
  have a2 : bAdd (.lst true (xA x m ++ xB x m)) (.lst true (xC x m)) = some (.lst true (xA x m ++ xB x m ++ xC x m)) := lst_add f2 rfl (Nat.le_trans (by simp [xA, xB, xC]) bg)
  have a3 : bAdd (.lst true (xA x m ++ xB x m ++ xC x m)) (.lst true (xD x m)) = some (.lst true (xA x m ++ xB x m ++ xC x m ++ xD x m)) := lst_add f3 rfl (Nat.le_trans (by simp [xA, xB, xC, xD]) bg)
  have a4 : bAdd (.lst true (xA x m ++ xB x m ++ xC x m ++ xD x m)) (.lst false (xE x)) = some (.lst true (xA x m ++ xB x m ++ xC x m ++ xD x m ++ xE x)) := lst_add f4 rfl (Nat.le_trans (by simp [xA, xB, xC, xD, xE]) bg)
  have a5 : bAdd (.lst true (xA x m ++ xB x m ++ xC x m ++ xD x m ++ xE x)) (.lst true (xF x)) = some (.lst true (X26 x m)) := lst_add f5 rfl (Nat.le_trans (by simp [xA, xB, xC, xD, xE, xF]) bg)
  unfold b__law_wrong_tests
  rw [seq_nx (ρ1 := TW p3 L x m wy none none) (by simp -implicitDefEqProofs [e, e2, e30, w, w2]) rfl,
    seq_nx (ρ1 := TW p3 L x m wy (some (.lst true (xA x m))) none) (by simp -implicitDefEqProofs [xA]) rfl]
  generalize xA x m = A at a1 a2 a3 a4 a5
  rw [seq_nx (ρ1 := TW p3 L x m wy (some (.lst true (A ++ xB x m))) none) (by simp only [xB] at a1 ⊢; simp -implicitDefEqProofs [a1, e30]) rfl]
  generalize A ++ xB x m = B at a2 a3 a4 a5
  rw [seq_nx (ρ1 := TW p3 L x m wy (some (.lst true (B ++ xC x m))) none) (by simp only [xC] at a2 ⊢; simp -implicitDefEqProofs [a2, e30]) rfl]
  generalize B ++ xC x m = C at a3 a4 a5
  rw [seq_nx (ρ1 := TW p3 L x m wy (some (.lst true (C ++ xD x m))) none) (by simp only [xD] at a3 ⊢; simp -implicitDefEqProofs [a3]) rfl]
  generalize C ++ xD x m = D at a4 a5
  rw [seq_nx (ρ1 := TW p3 L x m wy (some (.lst true (D ++ xE x))) none) (by simp only [xE] at a4 ⊢; simp -implicitDefEqProofs [a4]) rfl]
  generalize D ++ xE x = E at a5
  rw [seq_nx (ρ1 := TW p3 L x m wy (some (.lst true (X26 x m))) none) (by simp only [xF] at a5; simp -implicitDefEqProofs [a5]) rfl]
  rfl
theorem wrong_tests_draw (h : Pot p (n + 10)) (hn : 0 ≤ n) (ht : ∀ t ∈ ts, TOk t) (l3 : ts.length < 100) (hx : WOk x) :
    ∃ (v p' : PV), f__law_wrong_tests [p, .tup (ts.map tv), .str x] = .ok v [p', .tup (ts.map tv), .str x] ∧ Sy f_are_tests v false ∧ Pot p' n := by
  obtain ⟨m, p1, e1, m0, m1, h1⟩ := draw_ok (n := n + 5) (m := 1000000000000000000000000000000) (h.less (by omega) (by omega)) (by omega) (by decide) (by decide)
  obtain ⟨wy, p2, e2, y0, y1, h2⟩ := draw_ok (n := n + 4) (m := 28) (h1.less (by omega) (by omega)) (by omega) (by decide) (by decide)
  have hd := tw_head (L := .tup (ts.map tv)) (x := x) e1 e2 h.own h1.own
  have fx := fros_tv ts
  have lx : (ts.map tv).length = ts.length := List.length_map _
  have len : fLen (.tup (ts.map tv)) = some (.int (ts.length : Nat)) := by
    show some (PV.int ((ts.map tv).length : Nat)) = _
    rw [lx]
  have w2 := h2.own
  by_cases c : wy < 26
  · obtain ⟨q, p3, e3, q0, q1, h3⟩ := draw_ok (n := n) (m := (ts.length : Nat) + 1) (h2.less (by omega) (by omega)) (by omega) (by omega) (by omega)
    obtain ⟨v, mv, ev, fv⟩ := pick_any (b := true) (d := wy) (xs := X26 x m) rfl y0 (by show wy < 26; exact c)
    have bad := x26_test hx m0 mv
    have s1 := slg_to fx q0 (by rw [lx]; omega)
    have s3 := slg_fr fx (i := q) (by omega) (by rw [lx]; omega)
    rw [← List.map_take] at s1
    rw [← List.map_drop] at s3
    have W := one_wrong_t (ps := ts.take q.toNat) (qs := ts.drop q.toNat) (fun p hp' => ht p (List.mem_of_mem_take hp')) (fun p hp' => ht p (List.mem_of_mem_drop hp')) bad
    have a1 : bAdd (.tup ((ts.take q.toNat).map tv)) (.tup [v]) = some (.tup ((ts.take q.toNat).map tv ++ [v])) := addf (fros_tv _) (by simp [fv]) (by simp; unfold big; omega)
    have a2 : bAdd (.tup ((ts.take q.toNat).map tv ++ [v])) (.tup ((ts.drop q.toNat).map tv)) = some (.tup ((ts.take q.toNat).map tv ++ [v] ++ (ts.drop q.toNat).map tv)) := addf (fros_app (fros_tv _) (by simp [fv])) (fros_tv _) (by simp; unfold big; omega)
    refine ⟨_, p3, ?_, W, h3⟩
    have w3 := h3.own
    simp only [f__law_wrong_tests]
    rw [mk_eq rfl]
    simp -implicitDefEqProofs only [List.map_cons, List.map_nil, List.length_cons, List.length_nil, List.cons_append, List.nil_append, List.replicate]
    rw [hd]
    generalize PV.tup ((ts.take q.toNat).map tv ++ [v] ++ (ts.drop q.toNat).map tv) = R at a2 ⊢
    generalize PV.tup ((ts.take q.toNat).map tv ++ [v]) = C at a1 a2
    generalize PV.tup ((ts.take q.toNat).map tv) = A at s1 a1
    generalize PV.tup ((ts.drop q.toNat).map tv) = B at s3 a2
    have ftup : fro (.tup (ts.map tv)) = true := by simp [fx]
    generalize PV.tup (ts.map tv) = L at len s1 s3 ftup ⊢
    unfold twT
    simp -implicitDefEqProofs [c, len, e3, ev, s1, s3, a1, a2, w2, w3, ftup, -ix_l]
  · have fl : fList (.tup (ts.map tv)) = some (.lst true (ts.map tv)) := by
      show (if fros (ts.map tv) = true then _ else _) = _
      rw [if_pos fx]
    have zF : frzs (ts.map tv) = ts.map tv := frzs_of_fros fx
    have all : ∀ v ∈ [.lst false (ts.map tv), .non], Sy f_are_tests v false := fun v hv => by
      simp only [List.mem_cons, List.not_mem_nil, or_false] at hv
      rcases hv with e | e <;> rw [e]
      · exact tests_nt rfl (by simp [fx])
      · exact tests_nt rfl rfl
    have fal : fros [.lst false (ts.map tv), .non] = true := by
      rw [fros_eq, List.all_eq_true]
      exact fun v hv => (all v hv).fr
    obtain ⟨v, mv, ev, fv⟩ := pick_any (b := false) (d := wy - 26) fal (by omega) (by simp; omega)
    refine ⟨v, p2, ?_, all v mv, h2.less (by omega) (by omega)⟩
    have sb : bSub (.int wy) (.int 26) = some (.int (wy - 26)) := rfl
    simp only [f__law_wrong_tests]
    rw [mk_eq rfl]
    simp -implicitDefEqProofs only [List.map_cons, List.map_nil, List.length_cons, List.length_nil, List.cons_append, List.nil_append, List.replicate]
    rw [hd]
    generalize ts.map tv = L at fl zF ev fx ⊢
    unfold twT
    simp -implicitDefEqProofs [c, fl, zF, sb, ev, w2, -ix_l]
end
end Law
set_option Elab.async false
set_option linter.all false
set_option maxRecDepth 100000
set_option maxHeartbeats 2000000
/-! k14: what is refused; good sendings compared. -/
namespace Law
open PySem (Str)
open Tr Tr.Ev
theorem permF_er {p q : List Nat} {sem : FF} {as ws : List PV} {e : PExc} (h : sem (gP p as) = .er e ws) : permF p q sem as = .er e (gP q ws) := by unfold permF; simp only [h]
@[simp] theorem gP_nil {α : Type} {xs : List α} : gP [] xs = [] := rfl
theorem g0 {α : Type} {a b c d : α} : gP [0, 1, 2, 3] [a, b, c, d] = [a, b, c, d] := by simp [gP]
theorem g1 {α : Type} {a b c d : α} : gP [0, 3, 2, 1] [a, b, c, d] = [a, d, c, b] := by simp [gP]
theorem g2 {α : Type} {a b c d : α} : gP [0, 2, 1, 3] [a, b, c, d] = [a, c, b, d] := by simp [gP]
section
variable {s t o i1 : PV} {b : Bool} {e : PExc}
theorem p0_er (h : f_Sending___init__ [.ins true 8 [], s, t, o] = .er e [.ins true 8 [], s, t, o]) : permF [0, 1, 2, 3] [0, 1, 2, 3] f_Sending___init__ [.ins true 8 [], s, t, o] = .er e [.ins true 8 [], s, t, o] := by
  have z := permF_er (p := [0, 1, 2, 3]) (q := [0, 1, 2, 3]) (as := [.ins true 8 [], s, t, o]) (sem := f_Sending___init__) (by rw [g0]; exact h)
  rw [g0] at z
  exact z
theorem p1_er (h : f_Sending___init__ [.ins true 8 [], s, t, o] = .er e [.ins true 8 [], s, t, o]) : permF [0, 3, 2, 1] [0, 3, 2, 1] f_Sending___init__ [.ins true 8 [], o, t, s] = .er e [.ins true 8 [], o, t, s] := by
  have z := permF_er (p := [0, 3, 2, 1]) (q := [0, 3, 2, 1]) (as := [.ins true 8 [], o, t, s]) (sem := f_Sending___init__) (by rw [g1]; exact h)
  rw [g1] at z
  exact z
theorem p0_ok (h : f_Sending___init__ [.ins true 8 [], s, t, o] = .ok .non [i1, s, t, o]) : permF [0, 1, 2, 3] [0, 1, 2, 3] f_Sending___init__ [.ins true 8 [], s, t, o] = .ok .non [i1, s, t, o] := by
  have z := permF_ok (p := [0, 1, 2, 3]) (q := [0, 1, 2, 3]) (as := [.ins true 8 [], s, t, o]) (sem := f_Sending___init__) (by rw [g0]; exact h)
  rw [g0] at z
  exact z
theorem p1_ok (h : f_Sending___init__ [.ins true 8 [], s, t, o] = .ok .non [i1, s, t, o]) : permF [0, 3, 2, 1] [0, 3, 2, 1] f_Sending___init__ [.ins true 8 [], o, t, s] = .ok .non [i1, o, t, s] := by
  have z := permF_ok (p := [0, 3, 2, 1]) (q := [0, 3, 2, 1]) (as := [.ins true 8 [], o, t, s]) (sem := f_Sending___init__) (by rw [g1]; exact h)
  rw [g1] at z
  exact z
theorem p2_ok (h : f_Sending___init__ [.ins true 8 [], s, t, o] = .ok .non [i1, s, t, o]) : permF [0, 2, 1, 3] [0, 2, 1, 3] f_Sending___init__ [.ins true 8 [], t, s, o] = .ok .non [i1, t, s, o] := by
  have z := permF_ok (p := [0, 2, 1, 3]) (q := [0, 2, 1, 3]) (as := [.ins true 8 [], t, s, o]) (sem := f_Sending___init__) (by rw [g2]; exact h)
  rw [g2] at z
  exact z
theorem refused_er {part : Str} {y : Int} (h : f_Sending___init__ [.ins true 8 [], s, t, o] = .er ⟨2, [.str part]⟩ [.ins true 8 [], s, t, o]) (fs : fro s = true) (ft : fro t = true) (fo : fro o = true) (hy : y = 0 ∨ y = 1 ∨ y = 2) :
    f__law_refused [.lst b [s, t, o], .int y] = .ok (.tup [.str part, .bl true]) [.lst b [s, t, o], .int y] := by
  have q0 := p0_er h
  have q1 := p1_er h
  have os : onlyFro s = some s := onlyFro_t fs
  have ot : onlyFro t = some t := onlyFro_t ft
  have oo : onlyFro o = some o := onlyFro_t fo
  simp only [f__law_refused, b__law_refused]
  rw [mk_eq rfl]
  rcases hy with rfl | rfl | rfl
  · simp -implicitDefEqProofs [eq_ii, eAnd, os, ot, oo, q0]
  · simp -implicitDefEqProofs [eq_ii, eAnd, os, ot, oo, q1]
  · simp -implicitDefEqProofs [eq_ii, eAnd, os, ot, oo, q0]
theorem refused_ok {y : Int} (h : f_Sending___init__ [.ins true 8 [], s, t, o] = .ok .non [i1, s, t, o]) (fs : fro s = true) (ft : fro t = true) (fo : fro o = true) (hy : y = 0 ∨ y = 1 ∨ y = 2) :
    f__law_refused [.lst b [s, t, o], .int y] = .ok .non [.lst b [s, t, o], .int y] := by
  have q0 := p0_ok h
  have q1 := p1_ok h
  have os : onlyFro s = some s := onlyFro_t fs
  have ot : onlyFro t = some t := onlyFro_t ft
  have oo : onlyFro o = some o := onlyFro_t fo
  simp only [f__law_refused, b__law_refused]
  rw [mk_eq rfl]
  rcases hy with rfl | rfl | rfl
  · simp -implicitDefEqProofs [eq_ii, eAnd, os, ot, oo, q0]
  · simp -implicitDefEqProofs [eq_ii, eAnd, os, ot, oo, q1]
  · simp -implicitDefEqProofs [eq_ii, eAnd, os, ot, oo, q0]
end
/-! parts, names, == -/
theorem parts_ok {s t o : PV} {w : Bool} (fs : fro s = true) (ft : fro t = true) (fo : fro o = true) : f_Sending_parts [.ins w 8 [s, t, o]] = .ok (.tup [s, t, o]) [.ins w 8 [s, t, o]] := by
  have os : onlyFro s = some s := onlyFro_t fs
  have ot : onlyFro t = some t := onlyFro_t ft
  have oo : onlyFro o = some o := onlyFro_t fo
  simp only [f_Sending_parts, b_Sending_parts]
  rw [mk_eq rfl]
  simp -implicitDefEqProofs [os, ot, oo]
theorem eq_tup {s t o s' t' o' : PV} (h : dat deep (.tup [s, t, o]) = true) (h' : dat deep (.tup [s', t', o']) = true) : cEq (.tup [s, t, o]) (.tup [s', t', o']) = some (eqv s s' && (eqv t t' && eqv o o')) := by
  unfold cEq
  rw [h, h', if_pos (by rfl)]
  simp [eqv, eqvs]
theorem own_eq {s t o s' t' o' : PV} {w w' : Bool} (fs : fro s = true) (ft : fro t = true) (fo : fro o = true) (fs' : fro s' = true) (ft' : fro t' = true) (fo' : fro o' = true) (h : dat deep (.tup [s, t, o]) = true) (h' : dat deep (.tup [s', t', o']) = true) :
    f_Sending___eq__ [.ins w 8 [s, t, o], .ins w' 8 [s', t', o']] = .ok (.bl (eqv s s' && (eqv t t' && eqv o o'))) [.ins w 8 [s, t, o], .ins w' 8 [s', t', o']] := by
  have p1 := parts_ok (w := w) fs ft fo
  have p2 := parts_ok (w := w') fs' ft' fo'
  have e := eq_tup h h'
  have f1 : fros [s, t, o] = true := by simp [fs, ft, fo]
  have f2 : fros [s', t', o'] = true := by simp [fs', ft', fo']
  simp only [f_Sending___eq__, b_Sending___eq__]
  rw [mk_eq rfl]
  generalize [s, t, o] = A at p1 e f1 ⊢
  generalize [s', t', o'] = B at p2 e f2 ⊢
  cases w <;> cases w' <;> simp -implicitDefEqProofs [eAnd, p1, p2, e, f1, f2]
theorem own_eq_t {s t o : PV} {w : Bool} {xs : List PV} (f : fros xs = true) (fs : fros [s, t, o] = true) : f_Sending___eq__ [.ins w 8 [s, t, o], .tup xs] = .ok (.bl false) [.ins w 8 [s, t, o], .tup xs] := by
  simp only [f_Sending___eq__, b_Sending___eq__]
  rw [mk_eq rfl]
  generalize [s, t, o] = A at fs ⊢
  cases w <;> simp -implicitDefEqProofs [eAnd, f, fs]
end Law
set_option Elab.async false
set_option linter.all false
set_option maxRecDepth 100000
set_option maxHeartbeats 1000000
namespace Law
open PySem (Str)
open Tr Tr.Ev
theorem eqvs_map {α : Type} [DecidableEq α] (f : α → PV) (h : ∀ x y, eqv (f x) (f y) = decide (x = y)) : ∀ xs ys : List α, eqvs (xs.map f) (ys.map f) = decide (xs = ys)
  | [], [] => rfl
  | [], y :: ys => by simp [eqvs]
  | x :: xs, [] => by simp [eqvs]
  | x :: xs, y :: ys => by
    rw [List.map_cons, List.map_cons, eqvs, h, eqvs_map f h xs ys]
    rw [Bool.eq_iff_iff]
    simp
theorem eqv_str (x y : Str) : eqv (.str x) (.str y) = decide (x = y) := by
  rw [eqv, Bool.eq_iff_iff]; simp
theorem eqv_cv (x y : Option Int) : eqv (cv x) (cv y) = decide (x = y) := by
  cases x with
  | none => cases y <;> rfl
  | some i =>
    cases y with
    | none => rfl
    | some j =>
      show (i == j) = _
      rw [Bool.eq_iff_iff]; simp
@[simp] theorem isa_is {x : Str} : isA .int (.str x) = some false := rfl
@[simp] theorem isa_bs {x : Str} : isA .bool (.str x) = some false := rfl
@[simp] theorem isa_si {i : Int} : isA .str (.int i) = some false := rfl
@[simp] theorem isN_str {x : Str} : cIsN (.str x) = some false := rfl
/-- both sides hold the same items -/
theorem same_seq {rec : FF} {v w : PV} {xs : List PV} {b : Bool} (n1 : cIsN v = some false) (n2 : cIsN w = some false) (a1 : isA .bool v = some false) (a2 : isA .bool w = some false) (a3 : isA .int w = some false) (a4 : isA .str w = some false)
    (a5 : isA2 .list .tuple v = some true) (a6 : isA .list w = some b) (a7 : isA .list v = some b) (l1 : fLen v = some (.int (xs.length : Nat))) (l2 : fLen w = some (.int (xs.length : Nat))) (hl : xs.length ≤ 100000)
    (i1 : ∀ k, k < xs.length → ix v (.int (k : Nat)) = xs[k]?) (i2 : ∀ k, k < xs.length → ix w (.int (k : Nat)) = xs[k]?) (hr : ∀ x ∈ xs, rec [x, x] = .ok (.bl true) [x, x]) :
    mk [true, true] 3 (b__law_same rec) [v, w] = .ok (.bl true) [v, w] := by
  have core := comp_pure (own := [2]) (b := bN 2) (t := (tNot (tE (eCall rec [(.ev (eP2 ix (.nm 0) (.nm 2))), (.ev (eP2 ix (.nm 1) (.nm 2)))] [])))) (f := eNm 2) (ρ := [some v, some w, none]) (fun k : Nat => PV.int (k : Nat)) (fun _ => false) (fun k => PV.int (k : Nat)) (l := List.range xs.length) fun k hk => by
    have hk' := List.mem_range.mp hk
    have e1 := i1 k hk'
    have e2 := i2 k hk'
    rw [List.getElem?_eq_getElem hk'] at e1 e2
    have e3 := hr xs[k] (List.getElem_mem hk')
    generalize xs[k] = x at e1 e2 e3
    refine ⟨[some v, some w, some (.int (k : Nat))], [some v, some w, some (.int (k : Nat))], rfl, ?_, fun _ => by simp, fun h => by cases h⟩
    simp -implicitDefEqProofs [e1, e2, e3]
  have hg : iRange1 (eP1 fLen (.nm 1)) [some v, some w, none] = .ok ((List.range xs.length).map fun k => PV.int (k : Nat)) [some v, some w, none] := by
    have := range1_run (f := eP1 fLen (.nm 1)) (ρ := [some v, some w, none]) (ρ1 := [some v, some w, none]) (n := (xs.length : Nat)) (by simp -implicitDefEqProofs [l2]) (by omega) (by omega)
    rwa [Int.toNat_natCast] at this
  have e := eComp_run (own := [2]) hg core
  have ef : (List.range xs.length).filter (fun _ => false) = [] := by simp
  rw [ef, List.map_nil] at e
  have bb : ∀ b : Bool, cNe (.bl b) (.bl b) = some false := fun b => by cases b <;> rfl
  have nn : cEq (.lst true []) (.lst true []) = some true := rfl
  simp only [b__law_same]
  rw [mk_eq rfl]
  simp -implicitDefEqProofs [n1, n2, a1, a2, a3, a4, a5, a6, a7, l1, l2, bb, ne_ii, e, nn, -isA2_eq]
theorem ix_all {xs : List PV} (h : fros xs = true) {k : Nat} (hk : k < xs.length) : (atI xs (k : Nat)).bind onlyFro = xs[k]? := by
  obtain ⟨x, hx, hat⟩ := at_list (xs := xs) (i := (k : Nat)) (by omega) (by omega)
  rw [Int.toNat_natCast] at hx
  rw [hat, hx]
  rw [fros_eq, List.all_eq_true] at h
  exact onlyFro_t (h x (List.mem_of_getElem? hx))

theorem same_eq {n : Nat} {as : List PV} : f__law_same (n + 1) as = mk [true, true] 3 (b__law_same (f__law_same n)) as := rfl
/-- plain data, truths among it -/
def plb : Nat → PV → Bool
  | _, .non => true | _, .int _ => true | _, .str _ => true | _, .bl _ => true
  | d + 1, .tup xs => decide (xs.length ≤ 100000) && xs.all (plb d)
  | d + 1, .lst false xs => decide (xs.length ≤ 100000) && xs.all (plb d)
  | _, _ => false
theorem plb_fro : ∀ {d : Nat} {v : PV}, plb d v = true → fro v = true
  | _, .non, _ => rfl
  | _, .int _, _ => rfl
  | _, .str _, _ => rfl
  | _, .bl _, _ => rfl
  | d + 1, .tup xs, h => by
    rw [fro_tup, fros_eq, List.all_eq_true]
    rw [plb, Bool.and_eq_true, List.all_eq_true] at h
    exact fun x hx => plb_fro (h.2 x hx)
  | d + 1, .lst false xs, h => by
    rw [fro_lf, fros_eq, List.all_eq_true]
    rw [plb, Bool.and_eq_true, List.all_eq_true] at h
    exact fun x hx => plb_fro (h.2 x hx)
  | 0, .tup _, h => by cases h
  | 0, .lst true _, h => by cases h
  | 0, .lst false _, h => by cases h
  | 0, .dct .., h => by cases h
  | 0, .ins .., h => by cases h
  | 0, .con _, h => by cases h
  | 0, .exc .., h => by cases h
  | _ + 1, .lst true _, h => by cases h
  | _ + 1, .dct .., h => by cases h
  | _ + 1, .ins .., h => by cases h
  | _ + 1, .con _, h => by cases h
  | _ + 1, .exc .., h => by cases h
theorem plb_fros {d : Nat} {xs : List PV} (h : xs.all (plb d) = true) : fros xs = true := by
  rw [fros_eq, List.all_eq_true]
  rw [List.all_eq_true] at h
  exact fun x hx => plb_fro (h x hx)
theorem same_bl {n : Nat} {b : Bool} : f__law_same (n + 1) [.bl b, .bl b] = .ok (.bl true) [.bl b, .bl b] := by
  have e : cEq (.bl b) (.bl b) = some true := by cases b <;> rfl
  rw [same_eq]
  simp only [b__law_same]
  rw [mk_eq rfl]
  simp -implicitDefEqProofs [eAnd, isA, cIsN, e]
theorem same_plb : ∀ {d : Nat} {v : PV}, plb d v = true → f__law_same (d + 1) [v, v] = .ok (.bl true) [v, v] := by
  intro d
  induction d with
  | zero =>
    intro v h
    cases v with
    | non => rw [same_eq]; simp only [b__law_same]; rw [mk_eq rfl]; simp -implicitDefEqProofs [eAnd]
    | int i => rw [same_eq]; simp only [b__law_same]; rw [mk_eq rfl]; simp -implicitDefEqProofs [eAnd, eq_ii]
    | str x => rw [same_eq]; simp only [b__law_same]; rw [mk_eq rfl]; simp -implicitDefEqProofs [eAnd, eq_ss]
    | bl b => exact same_bl
    | lst w xs => cases w <;> cases h
    | _ => cases h
  | succ d ih =>
    intro v h
    cases v with
    | non => rw [same_eq]; simp only [b__law_same]; rw [mk_eq rfl]; simp -implicitDefEqProofs [eAnd]
    | int i => rw [same_eq]; simp only [b__law_same]; rw [mk_eq rfl]; simp -implicitDefEqProofs [eAnd, eq_ii]
    | str x => rw [same_eq]; simp only [b__law_same]; rw [mk_eq rfl]; simp -implicitDefEqProofs [eAnd, eq_ss]
    | bl b => exact same_bl
    | tup xs =>
      rw [plb, Bool.and_eq_true, decide_eq_true_eq] at h
      rw [same_eq]
      exact same_seq (xs := xs) (b := false) rfl rfl rfl rfl rfl rfl rfl rfl rfl rfl rfl h.1 (fun k hk => ix_all (plb_fros h.2) hk) (fun k hk => ix_all (plb_fros h.2) hk) fun x hx => ih (List.all_eq_true.mp h.2 x hx)
    | lst w xs =>
      cases w with
      | true => cases h
      | false =>
        rw [plb, Bool.and_eq_true, decide_eq_true_eq] at h
        rw [same_eq]
        exact same_seq (xs := xs) (b := true) rfl rfl rfl rfl rfl rfl rfl rfl rfl rfl rfl h.1 (fun k hk => ix_all (plb_fros h.2) hk) (fun k hk => ix_all (plb_fros h.2) hk) fun x hx => ih (List.all_eq_true.mp h.2 x hx)
    | _ => cases h
theorem same_lb {d : Nat} {xs : List PV} {a b : Bool} (h : xs.all (plb d) = true) (hl : xs.length ≤ 100000) : f__law_same (d + 2) [.lst a xs, .lst b xs] = .ok (.bl true) [.lst a xs, .lst b xs] := by
  rw [same_eq]
  exact same_seq (xs := xs) (b := true) rfl rfl rfl rfl rfl rfl rfl rfl rfl rfl rfl hl (fun k hk => ix_all (plb_fros h) hk) (fun k hk => ix_all (plb_fros h) hk) fun x hx => same_plb (List.all_eq_true.mp h x hx)
theorem plb_map {α : Type} {f : α → PV} {d : Nat} {l : List α} (h : ∀ x ∈ l, plb d (f x) = true) (hl : l.length ≤ 100000) : plb (d + 1) (.tup (l.map f)) = true := by
  rw [plb, Bool.and_eq_true, decide_eq_true_eq, List.length_map]
  refine ⟨hl, ?_⟩
  rw [List.all_eq_true]
  intro x hx
  obtain ⟨y, hy, rfl⟩ := List.mem_map.mp hx
  exact h y hy
theorem plb_sh {d : Nat} {p : Sh} : plb (d + 1) (sh p) = true := by
  cases d <;> rfl
theorem plb_cv {d : Nat} {c : Option Int} : plb d (cv c) = true := by cases c <;> cases d <;> rfl
theorem plb_tv {d : Nat} {t : Tst} : plb (d + 1) (tv t) = true := by
  obtain ⟨w, x, c⟩ := t
  cases d <;> cases w <;> simp [tv, plb, plb_cv]
end Law
set_option Elab.async false
set_option linter.all false
set_option maxRecDepth 100000
set_option maxHeartbeats 2000000
/-! k14: a good sending. -/
namespace Law
open PySem (Str)
open Tr Tr.Ev
theorem eqv_refl : ∀ (n : Nat) {v : PV}, dat n v = true → eqv v v = true := by
  have atom : ∀ {v : PV}, dat 0 v = true → eqv v v = true := fun {v} h => by
    cases v <;> first | (cases h; done) | (simp [eqv]; done) | rfl
  intro n
  induction n with
  | zero => exact fun h => atom h
  | succ n ih =>
    have go : ∀ {xs : List PV}, xs.all (dat n) = true → eqvs xs xs = true := by
      intro xs
      induction xs with
      | nil => intro _; rfl
      | cons x xs ih2 =>
        intro h
        rw [List.all_cons, Bool.and_eq_true] at h
        rw [eqvs, ih h.1, ih2 h.2]; rfl
    intro v h
    cases v with
    | tup xs => rw [eqv]; exact go h
    | lst w xs => rw [eqv]; exact go h
    | non => rfl
    | bl b => simp [eqv]
    | int i => simp [eqv]
    | str x => simp [eqv]
    | _ => cases h
theorem eqvs_len : ∀ {xs ys : List PV}, eqvs xs ys = true → xs.length = ys.length
  | [], [], _ => rfl
  | [], _ :: _, h => by cases h
  | _ :: _, [], h => by cases h
  | x :: xs, y :: ys, h => by
    rw [eqvs, Bool.and_eq_true] at h
    rw [List.length_cons, List.length_cons, eqvs_len h.2]
theorem eqv_sh (p q : Sh) : eqv (sh p) (sh q) = decide (p = q) := by
  obtain ⟨x, g⟩ := p
  obtain ⟨y, k⟩ := q
  show (x == y && (g == k && true)) = _
  rw [Bool.eq_iff_iff]; simp
theorem eqv_shs (ps qs : List Sh) : eqv (.tup (ps.map sh)) (.tup (qs.map sh)) = decide (ps = qs) := by
  rw [eqv]; exact eqvs_map sh eqv_sh ps qs
theorem dat_shs {ps : List Sh} {n : Nat} : dat (n + 2) (.tup (ps.map sh)) = true := by
  show (ps.map sh).all (dat (n + 1)) = true
  rw [List.all_eq_true]
  intro x hx
  obtain ⟨p, _, rfl⟩ := List.mem_map.mp hx
  cases n <;> rfl
theorem dat_tv {t : Tst} {n : Nat} : dat (n + 1) (tv t) = true := by
  obtain ⟨w, x, c⟩ := t
  cases w <;> simp [tv, dat, dat_cv]
theorem dat_tvs {ts : List Tst} {n : Nat} : dat (n + 2) (.tup (ts.map tv)) = true := by
  show (ts.map tv).all (dat (n + 1)) = true
  rw [List.all_eq_true]
  intro x hx
  obtain ⟨p, _, rfl⟩ := List.mem_map.mp hx
  exact dat_tv
theorem dat3 {s t : PV} {b : Bool} (h1 : dat 19 s = true) (h2 : dat 19 t = true) : dat deep (.tup [s, t, .bl b]) = true := by
  show ([s, t, .bl b] : List PV).all (dat 19) = true
  simp [h1, h2, dat]
theorem rev_one {ps : List Sh} (nd : (ps.map (·.1)).Nodup) (l1 : 1 ≤ ps.length) : decide (ps.reverse = ps) = decide (ps.length = 1) := by
  rw [Bool.eq_iff_iff, decide_eq_true_eq, decide_eq_true_eq]
  constructor
  · intro h
    by_cases l : ps.length = 1
    · exact l
    exfalso
    have h0 : (ps.reverse)[0]? = ps[0]? := by rw [h]
    rw [List.getElem?_reverse (by omega)] at h0
    have a : ps.length - 1 - 0 < ps.length := by omega
    have b : 0 < ps.length := by omega
    rw [List.getElem?_eq_getElem a, List.getElem?_eq_getElem b] at h0
    injection h0 with h0
    have e1 : (ps.map (·.1))[ps.length - 1 - 0]'(by rw [List.length_map]; omega) = (ps.map (·.1))[0]'(by rw [List.length_map]; omega) := by
      rw [List.getElem_map, List.getElem_map, h0]
    exact List.pairwise_iff_getElem.mp nd 0 (ps.length - 1 - 0) (by rw [List.length_map]; omega) (by rw [List.length_map]; omega) (by omega) e1.symm
  · intro h
    obtain ⟨a, rfl⟩ := List.length_eq_one_iff.mp h
    rfl
def odd1 (p : Sh) : Sh := (p.1, if p.1 = ("key" : Str) then 1 else if p.2 = 1 then 2 else 1)
theorem odd1_ok {p : Sh} (h : ShOk p) : ShOk (odd1 p) := by
  refine ⟨h.i, ?_, ?_, ?_⟩
  · unfold odd1; simp only; split
    · exact Int.le_refl 1
    · split <;> omega
  · unfold odd1; simp only; split
    · omega
    · split <;> omega
  · intro e
    unfold odd1 at e ⊢
    simp only at e ⊢
    rw [if_pos e]
theorem odds_ok {ps : List Sh} (h : ShsOk ps) : ShsOk (ps.map odd1) := by
  refine ⟨fun q hq => ?_, ?_, by rw [List.length_map]; exact h.l1, by rw [List.length_map]; exact h.l7⟩
  · obtain ⟨p, hp, rfl⟩ := List.mem_map.mp hq
    exact odd1_ok (h.a p hp)
  · rw [List.map_map]
    exact h.nd
theorem rev_ok {ps : List Sh} (h : ShsOk ps) : ShsOk ps.reverse := by
  refine ⟨fun q hq => h.a q (List.mem_reverse.mp hq), ?_, by rw [List.length_reverse]; exact h.l1, by rw [List.length_reverse]; exact h.l7⟩
  rw [List.map_reverse]
  exact List.pairwise_reverse.mpr (List.Pairwise.imp (fun h => Ne.symm h) h.nd)
theorem names_run {ps : List Sh} {t o : PV} {w : Bool} (ft : fro t = true) (fo : fro o = true) : f_Sending_names [.ins w 8 [.tup (ps.map sh), t, o]] = .ok (.tup ((ps.map (·.1)).map .str)) [.ins w 8 [.tup (ps.map sh), t, o]] := by
  have fx := fros_shs ps
  have zx : frzs (ps.map sh) = ps.map sh := frzs_of_fros fx
  have ox : onlyFro (.tup (ps.map sh)) = some (.tup (ps.map sh)) := onlyFro_t (by simp [fx])
  have hw : iE (eP1 (pj [(8, 0)] onlyFro) (.nm 0)) [some (.ins w 8 [.tup (ps.map sh), t, o]), none, none] = .ok (ps.map sh) [some (.ins w 8 [.tup (ps.map sh), t, o]), none, none] :=
    iE_run (v := .tup (ps.map sh)) (by generalize PV.tup (ps.map sh) = S at ox ⊢; simp -implicitDefEqProofs [ox]) (by rw [frz, zx]; rfl)
  generalize PV.ins w 8 [.tup (ps.map sh), t, o] = I at hw ⊢
  have core := comp_pure (own := [1, 2]) (b := bT [(bN 1), (bN 2)]) (t := tYes) (f := eNm 1) (ρ := [some I, none, none]) sh (fun _ => true) (fun p => PV.str p.1) (l := ps) fun p _ =>
    ⟨[some I, some (.str p.1), some (.int p.2)], _, rfl, rfl, (fun h => by cases h), fun _ => ⟨[some I, some (.str p.1), some (.int p.2)], by simp -implicitDefEqProofs, by simp⟩⟩
  have e2 := eComp_run (own := [1, 2]) hw core
  have e3 : ((ps.filter fun _ => true).map fun p => PV.str p.1) = (ps.map (·.1)).map .str := by rw [filter_t, List.map_map]; rfl
  rw [e3] at e2
  simp only [f_Sending_names, b_Sending_names]
  rw [mk_eq rfl]
  simp -implicitDefEqProofs only [List.map_cons, List.map_nil, List.length_cons, List.length_nil, List.cons_append, List.nil_append, List.replicate]
  rw [sRet_eq, eP1_eq, go_ev, e2]
  generalize ps.map (·.1) = ws
  simp -implicitDefEqProofs [tup_strs]
end Law
set_option Elab.async false
set_option linter.all false
set_option maxRecDepth 100000
set_option maxHeartbeats 4000000
/-! k14: a good sending, asked in every way. -/
namespace Law
open PySem (Str)
open Tr Tr.Ev
abbrev MT2 : MT := [(8, f_Sending___eq__), (9, f_Sheet___eq__)]
theorem g01 {α : Type} {a b : α} : gP [0, 1] [a, b] = [a, b] := by simp [gP]
theorem teI {s t o s' t' o' : PV} {w w' : Bool} {ρ : Env} {oa ob : Opd} (fs : fro s = true) (ft : fro t = true) (fo : fro o = true) (fs' : fro s' = true) (ft' : fro t' = true) (fo' : fro o' = true) (h : dat deep (.tup [s, t, o]) = true) (h' : dat deep (.tup [s', t', o']) = true) :
    te2 [8, 9] MT2 oa ob ρ [.ins w 8 [s, t, o], .ins w' 8 [s', t', o']] = .ok (eqv s s' && (eqv t t' && eqv o o')) (giveAll [oa, ob] [.ins w 8 [s, t, o], .ins w' 8 [s', t', o']] [.ins w 8 [s, t, o], .ins w' 8 [s', t', o']] ρ) := te2_ok rfl (disp_hd (own_eq fs ft fo fs' ft' fo' h h'))
theorem teT {s t o : PV} {w : Bool} {xs : List PV} {ρ : Env} {oa ob : Opd} (f : fros xs = true) (fs : fros [s, t, o] = true) :
    te2 [8, 9] MT2 oa ob ρ [.ins w 8 [s, t, o], .tup xs] = .ok false (giveAll [oa, ob] [.ins w 8 [s, t, o], .tup xs] [.ins w 8 [s, t, o], .tup xs] ρ) := te2_ok rfl (disp_hd (own_eq_t f fs))
abbrev GE (G M : PV) (i2 i3 h4 i5 i6 o7 : Option PV) : Env := [some G, some M, i2, i3, h4, i5, i6, o7, none, none]
section
variable {G M : PV} {i2 i3 h4 i5 i6 o7 : Option PV} {ps : List Sh}
theorem walkS (g : ix G (.int 0) = some (.tup (ps.map sh))) : iE (eP2 ix (.nm 0) (.ev (eC (.int 0)))) (GE G M i2 i3 h4 i5 i6 o7) = .ok (ps.map sh) (GE G M i2 i3 h4 i5 i6 o7) := by
  have zx : frzs (ps.map sh) = ps.map sh := frzs_of_fros (fros_shs ps)
  exact iE_run (v := .tup (ps.map sh)) (by simp -implicitDefEqProofs [g]) (by rw [frz, zx]; rfl)
theorem heads8 (g : ix G (.int 0) = some (.tup (ps.map sh))) : eComp [8, 9] (iE (eP2 ix (.nm 0) (.ev (eC (.int 0))))) (bT [(bN 8), (bN 9)]) tYes (eNm 8) (GE G M i2 i3 h4 i5 i6 o7) = .ok (.lst true ((ps.map (·.1)).map .str)) (GE G M i2 i3 h4 i5 i6 o7) := by
  have core := comp_pure (own := [8, 9]) (b := bT [(bN 8), (bN 9)]) (t := tYes) (f := eNm 8) (ρ := GE G M i2 i3 h4 i5 i6 o7) sh (fun _ => true) (fun p => PV.str p.1) (l := ps) fun p _ =>
    ⟨[some G, some M, i2, i3, h4, i5, i6, o7, some (.str p.1), some (.int p.2)], _, rfl, rfl, (fun h => by cases h), fun _ => ⟨[some G, some M, i2, i3, h4, i5, i6, o7, some (.str p.1), some (.int p.2)], by simp -implicitDefEqProofs, by simp⟩⟩
  have e2 := eComp_run (own := [8, 9]) (walkS g) core
  have e3 : ((ps.filter fun _ => true).map fun p => PV.str p.1) = (ps.map (·.1)).map .str := by rw [filter_t, List.map_map]; rfl
  rw [e3] at e2
  rw [e2]
  simp
theorem odds8 (g : ix G (.int 0) = some (.tup (ps.map sh))) : eComp [8, 9] (iE (eP2 ix (.nm 0) (.ev (eC (.int 0))))) (bT [(bN 8), (bN 9)]) tYes (eTup (aCons (eNm 8) (aCons (eIf (tPV2 cEq (.nm 8) (.ev (eC (.str "key")))) (eC (.int 1)) (eP2 bAdd (.ev (eC (.int 1))) (.ev (eP1 fInt (.ev (eT (tPV2 cEq (.nm 9) (.ev (eC (.int 1)))))))))) aNil))) (GE G M i2 i3 h4 i5 i6 o7) = .ok (.lst true ((ps.map odd1).map sh)) (GE G M i2 i3 h4 i5 i6 o7) := by
  have core := comp_pure (own := [8, 9]) (b := bT [(bN 8), (bN 9)]) (t := tYes) (f := (eTup (aCons (eNm 8) (aCons (eIf (tPV2 cEq (.nm 8) (.ev (eC (.str "key")))) (eC (.int 1)) (eP2 bAdd (.ev (eC (.int 1))) (.ev (eP1 fInt (.ev (eT (tPV2 cEq (.nm 9) (.ev (eC (.int 1)))))))))) aNil)))) (ρ := GE G M i2 i3 h4 i5 i6 o7) sh (fun _ => true) (fun p => sh (odd1 p)) (l := ps) fun p _ =>
    ⟨[some G, some M, i2, i3, h4, i5, i6, o7, some (.str p.1), some (.int p.2)], _, rfl, rfl, (fun h => by cases h), fun _ => ⟨[some G, some M, i2, i3, h4, i5, i6, o7, some (.str p.1), some (.int p.2)], by
      obtain ⟨x, g⟩ := p
      by_cases q : x = ("key" : Str)
      · simp -implicitDefEqProofs [eq_ss, q, odd1, sh]
      · by_cases r : g = 1
        · simp -implicitDefEqProofs [eq_ss, q, odd1, sh, eq_ii, r, b2i]
        · simp -implicitDefEqProofs [eq_ss, q, odd1, sh, eq_ii, r, b2i], by simp⟩⟩
  have e2 := eComp_run (own := [8, 9]) (walkS g) core
  have e3 : ((ps.filter fun _ => true).map fun p => sh (odd1 p)) = (ps.map odd1).map sh := by rw [filter_t, List.map_map]; rfl
  rw [e3] at e2
  rw [e2]
  simp
end
theorem tup_shs {ps : List Sh} {w : Bool} : fTuple (.lst w (ps.map sh)) = some (.tup (ps.map sh)) := by
  show (if fros (ps.map sh) = true then some (PV.tup (ps.map sh)) else none) = _
  rw [if_pos (fros_shs _)]
theorem ne_bb {r : Bool} : cNe (.bl r) (.bl r) = some false := by cases r <;> rfl
end Law
set_option Elab.async false
set_option linter.all false
set_option maxRecDepth 100000
set_option maxHeartbeats 4000000
/-! k14: a good sending, the run. -/
namespace Law
open PySem (Str)
open Tr Tr.Ev
theorem bnot_bl {b : Bool} : eqv (.bl (!b)) (.bl b) = false := by cases b <;> rfl
abbrev iS8 (s t o : PV) : PV := .ins true 8 [s, t, o]
theorem good_core {S T T' R O H G M : PV} {Hs Os : List PV} {b c r5 rO : Bool} {nl : Int} {q1 : Bool}
    (fG : fro G = true) (fM : fro M = true) (fH : fro H = true) (fS : fro S = true) (fT : fro T = true) (fR : fro R = true) (fO : fro O = true) (fT' : fro T' = true)
    (g0 : ix G (.int 0) = some S) (g1 : ix G (.int 1) = some T) (g2 : ix G (.int 2) = some (.bl b))
    (a1 : permF [0, 1, 2, 3] [0, 1, 2, 3] f_Sending___init__ [.ins true 8 [], S, T, .bl b] = .ok .non [iS8 S T (.bl b), S, T, .bl b])
    (a2 : permF [0, 2, 1, 3] [0, 2, 1, 3] f_Sending___init__ [.ins true 8 [], T, S, .bl b] = .ok .non [iS8 S T (.bl b), T, S, .bl b])
    (a3 : permF [0, 1, 2, 3] [0, 1, 2, 3] f_Sending___init__ [.ins true 8 [], S, .tup [], .bl false] = .ok .non [iS8 S (.tup []) (.bl false), S, .tup [], .bl false])
    (a4 : permF [0, 1, 2, 3] [0, 1, 2, 3] f_Sending___init__ [.ins true 8 [], S, T', .bl b] = .ok .non [iS8 S T' (.bl b), S, T', .bl b])
    (a5 : permF [0, 1, 2, 3] [0, 1, 2, 3] f_Sending___init__ [.ins true 8 [], S, T, .bl (!b)] = .ok .non [iS8 S T (.bl (!b)), S, T, .bl (!b)])
    (a6 : permF [0, 1, 2, 3] [0, 1, 2, 3] f_Sending___init__ [.ins true 8 [], R, T, .bl b] = .ok .non [iS8 R T (.bl b), R, T, .bl b])
    (a7 : permF [0, 1, 2, 3] [0, 1, 2, 3] f_Sending___init__ [.ins true 8 [], O, T, .bl b] = .ok .non [iS8 O T (.bl b), O, T, .bl b])
    (hc : cNe T (.tup []) = some c) (hs : if c = true then sl T (some 1) none = some T' else T' = M)
    (hR : rvA S = some R) (hl : fLen S = some (.int nl)) (l1 : cEq (.int nl) (.int 1) = some q1)
    (nm : f_Sending_names [iS8 S T (.bl b)] = .ok H [iS8 S T (.bl b)])
    (m1 : f__law_same 6 [.lst true [H, G], .lst true [H, G]] = .ok (.bl true) [.lst true [H, G], .lst true [H, G]])
    (m2 : f__law_same 6 [.tup [S, .tup [], .bl false], .tup [S, .tup [], .bl false]] = .ok (.bl true) [.tup [S, .tup [], .bl false], .tup [S, .tup [], .bl false]])
    (e5 : cEq (.tup [S, .tup [], .bl false]) G = some r5) (eO : cEq O S = some rO)
    (h8 : ∀ i2 i3 h4 i5 i6 o7, eComp [8, 9] (iE (eP2 ix (.nm 0) (.ev (eC (.int 0))))) (bT [(bN 8), (bN 9)]) tYes (eNm 8) (GE G M i2 i3 h4 i5 i6 o7) = .ok (.lst true Hs) (GE G M i2 i3 h4 i5 i6 o7)) (tH : fTuple (.lst true Hs) = some H)
    (o8 : ∀ i2 i3 h4 i5 i6 o7, eComp [8, 9] (iE (eP2 ix (.nm 0) (.ev (eC (.int 0))))) (bT [(bN 8), (bN 9)]) tYes (eTup (aCons (eNm 8) (aCons (eIf (tPV2 cEq (.nm 8) (.ev (eC (.str "key")))) (eC (.int 1)) (eP2 bAdd (.ev (eC (.int 1))) (.ev (eP1 fInt (.ev (eT (tPV2 cEq (.nm 9) (.ev (eC (.int 1)))))))))) aNil))) (GE G M i2 i3 h4 i5 i6 o7) = .ok (.lst true Os) (GE G M i2 i3 h4 i5 i6 o7)) (tO : fTuple (.lst true Os) = some O)
    (w1 : ∀ {oa ob : Opd} {ρ : Env}, te2 [8, 9] MT2 oa ob ρ [iS8 S T (.bl b), iS8 S T (.bl b)] = .ok true (giveAll [oa, ob] [iS8 S T (.bl b), iS8 S T (.bl b)] [iS8 S T (.bl b), iS8 S T (.bl b)] ρ))
    (w5 : ∀ {oa ob : Opd} {ρ : Env}, te2 [8, 9] MT2 oa ob ρ [iS8 S (.tup []) (.bl false), iS8 S T (.bl b)] = .ok r5 (giveAll [oa, ob] [iS8 S (.tup []) (.bl false), iS8 S T (.bl b)] [iS8 S (.tup []) (.bl false), iS8 S T (.bl b)] ρ))
    (wG : ∀ {oa ob : Opd} {ρ : Env}, te2 [8, 9] MT2 oa ob ρ [iS8 S T (.bl b), G] = .ok false (giveAll [oa, ob] [iS8 S T (.bl b), G] [iS8 S T (.bl b), G] ρ))
    (w6 : ∀ {oa ob : Opd} {ρ : Env}, te2 [8, 9] MT2 oa ob ρ [iS8 S T' (.bl b), iS8 S T (.bl b)] = .ok false (giveAll [oa, ob] [iS8 S T' (.bl b), iS8 S T (.bl b)] [iS8 S T' (.bl b), iS8 S T (.bl b)] ρ))
    (wN : ∀ {oa ob : Opd} {ρ : Env}, te2 [8, 9] MT2 oa ob ρ [iS8 S T (.bl (!b)), iS8 S T (.bl b)] = .ok false (giveAll [oa, ob] [iS8 S T (.bl (!b)), iS8 S T (.bl b)] [iS8 S T (.bl (!b)), iS8 S T (.bl b)] ρ))
    (wR : ∀ {oa ob : Opd} {ρ : Env}, te2 [8, 9] MT2 oa ob ρ [iS8 R T (.bl b), iS8 S T (.bl b)] = .ok q1 (giveAll [oa, ob] [iS8 R T (.bl b), iS8 S T (.bl b)] [iS8 R T (.bl b), iS8 S T (.bl b)] ρ))
    (wO : ∀ {oa ob : Opd} {ρ : Env}, te2 [8, 9] MT2 oa ob ρ [iS8 O T (.bl b), iS8 S T (.bl b)] = .ok rO (giveAll [oa, ob] [iS8 O T (.bl b), iS8 S T (.bl b)] [iS8 O T (.bl b), iS8 S T (.bl b)] ρ))
    (k1 : f_Sending_parts [iS8 S T (.bl b)] = .ok G [iS8 S T (.bl b)]) (k5 : f_Sending_parts [iS8 S (.tup []) (.bl false)] = .ok (.tup [S, .tup [], .bl false]) [iS8 S (.tup []) (.bl false)]) :
    f__law_good_right [G, M] = .ok (.bl true) [G, M] := by
  have zG : frz G = G := frz_of_fro fG
  have zH : frz H = H := frz_of_fro fH
  have zM : frz M = M := frz_of_fro fM
  simp only [f__law_good_right, b__law_good_right]
  rw [mk_eq rfl]
  simp -implicitDefEqProofs only [List.map_cons, List.map_nil, List.length_cons, List.length_nil, List.cons_append, List.nil_append, List.replicate]
  rw [seq_nx (ρ1 := GE G M (some (iS8 S T (.bl b))) none none none none none) (by simp -implicitDefEqProofs [g0, g1, g2, a1]) rfl,
    seq_nx (ρ1 := GE G M (some (iS8 S T (.bl b))) (some (iS8 S T (.bl b))) none none none none) (by simp -implicitDefEqProofs [g0, g1, g2, a2]) rfl,
    seq_nx (ρ1 := GE G M (some (iS8 S T (.bl b))) (some (iS8 S T (.bl b))) (some H) none none none) (by rw [sSet_eq, eP1_eq, go_ev, h8]; simp -implicitDefEqProofs [tH]) rfl,
    seq_nx (ρ1 := GE G M (some (iS8 S T (.bl b))) (some (iS8 S T (.bl b))) (some H) none none none) (by simp -implicitDefEqProofs [nm, k1, zG, zH, m1]) rfl,
    seq_nx (ρ1 := GE G M (some (iS8 S T (.bl b))) (some (iS8 S T (.bl b))) (some H) (some (iS8 S (.tup []) (.bl false))) none none) (by simp -implicitDefEqProofs [g0, g01, a3]) rfl,
    seq_nx (ρ1 := GE G M (some (iS8 S T (.bl b))) (some (iS8 S T (.bl b))) (some H) (some (iS8 S (.tup []) (.bl false))) none none) (by simp -implicitDefEqProofs [k5, g0, m2]) rfl,
    seq_nx (ρ1 := GE G M (some (iS8 S T (.bl b))) (some (iS8 S T (.bl b))) (some H) (some (iS8 S (.tup []) (.bl false))) none none) (by simp -implicitDefEqProofs [w5, k5, e5, ne_bb, wG, fG]) rfl,
    seq_nx (ρ1 := GE G M (some (iS8 S T (.bl b))) (some (iS8 S T (.bl b))) (some H) (some (iS8 S (.tup []) (.bl false))) (some (iS8 S T' (.bl b))) none) (by
      cases c with
      | true => rw [if_pos rfl] at hs; simp -implicitDefEqProofs [g0, g1, g2, hc, hs, a4]
      | false => rw [if_neg Bool.false_ne_true] at hs; subst hs; simp -implicitDefEqProofs [g0, g1, g2, hc, zM, a4]) rfl,
    seq_nx (ρ1 := GE G M (some (iS8 S T (.bl b))) (some (iS8 S T (.bl b))) (some H) (some (iS8 S (.tup []) (.bl false))) (some (iS8 S T' (.bl b))) none) (by simp -implicitDefEqProofs [w6, g0, g1, g2, a5, wN]) rfl,
    seq_nx (ρ1 := GE G M (some (iS8 S T (.bl b))) (some (iS8 S T (.bl b))) (some H) (some (iS8 S (.tup []) (.bl false))) (some (iS8 S T' (.bl b))) none) (by simp -implicitDefEqProofs [g0, g1, g2, hR, a6, wR, hl, l1, ne_bb]) rfl,
    seq_nx (ρ1 := GE G M (some (iS8 S T (.bl b))) (some (iS8 S T (.bl b))) (some H) (some (iS8 S (.tup []) (.bl false))) (some (iS8 S T' (.bl b))) (some O)) (by rw [sSet_eq, eP1_eq, go_ev, o8]; simp -implicitDefEqProofs [tO]) rfl,
    seq_nx (ρ1 := GE G M (some (iS8 S T (.bl b))) (some (iS8 S T (.bl b))) (some H) (some (iS8 S (.tup []) (.bl false))) (some (iS8 S T' (.bl b))) (some O)) (by simp -implicitDefEqProofs [g0, g1, g2, fO, a7, wO, eO, ne_bb]) rfl]
  simp -implicitDefEqProofs [eAnd, w1]
theorem good_right {ps : List Sh} {ts : List Tst} {b : Bool} {x : Str} (hp : ShsOk ps) (ht : ∀ t ∈ ts, TOk t) (l : ts.length ≤ 100) (hx : WOk x) :
    f__law_good_right [.tup [.tup (ps.map sh), .tup (ts.map tv), .bl b], .tup [.tup [.str "filled", .str x]]] = .ok (.bl true) [.tup [.tup (ps.map sh), .tup (ts.map tv), .bl b], .tup [.tup [.str "filled", .str x]]] := by
  have pS := shown_ok hp
  have pT := tests_ok ht
  have pR := shown_ok (rev_ok hp)
  have pO := shown_ok (odds_ok hp)
  have pE : Sy f_are_tests (.tup []) true := tests_ok (ts := []) (fun t h => by cases h)
  have pM : Sy f_are_tests (.tup [.tup [.str "filled", .str x]]) true := tests_ok (ts := [⟨.filled, x, none⟩]) (fun t h => by
    rw [List.mem_singleton.mp h]
    exact ⟨hx, (fun i e => by cases e), (fun e => by rcases e with e | e <;> cases e)⟩)
  have dS : dat 19 (.tup (ps.map sh)) = true := dat_shs
  have dT : dat 19 (.tup (ts.map tv)) = true := dat_tvs
  have dR : dat 19 (.tup (ps.reverse.map sh)) = true := dat_shs
  have dO : dat 19 (.tup ((ps.map odd1).map sh)) = true := dat_shs
  have dE : dat 19 (.tup []) = true := rfl
  have dM : dat 19 (.tup [.tup [.str "filled", .str x]]) = true := rfl
  -- the other tests
  obtain ⟨T', c, hc, hs, pT', dT', nT'⟩ : ∃ (T' : PV) (c : Bool), cNe (.tup (ts.map tv)) (.tup []) = some c ∧ (if c = true then sl (.tup (ts.map tv)) (some 1) none = some T' else T' = .tup [.tup [.str "filled", .str x]]) ∧ Sy f_are_tests T' true ∧ dat 19 T' = true ∧ eqv T' (.tup (ts.map tv)) = false := by
    cases ts with
    | nil =>
      exact ⟨_, false, rfl, rfl, pM, dM, rfl⟩
    | cons t ts =>
      have s := slg_fr (fros_tv (t :: ts)) (i := 1) (by omega) (by simp; omega)
      refine ⟨.tup (ts.map tv), true, ?_, ?_, tests_ok fun u hu => ht u (List.mem_cons_of_mem _ hu), dat_tvs, ?_⟩
      · unfold cNe
        rw [show dat deep (.tup ((t :: ts).map tv)) = true from dat_tvs]
        rfl
      · rw [if_pos rfl, s]; rfl
      · cases q : eqv (.tup (ts.map tv)) (.tup ((t :: ts).map tv)) with
        | false => rfl
        | true =>
          rw [eqv] at q
          have := eqvs_len q
          simp at this
  have rS : eqv (.tup (ps.map sh)) (.tup (ps.map sh)) = true := eqv_refl 19 dS
  have rT : eqv (.tup (ts.map tv)) (.tup (ts.map tv)) = true := eqv_refl 19 dT
  have rb : eqv (.bl b) (.bl b) = true := by cases b <;> rfl
  have rR : eqv (.tup (ps.reverse.map sh)) (.tup (ps.map sh)) = decide (ps.length = 1) := by rw [eqv_shs, rev_one hp.nd hp.l1]
  have a1 := p0_ok (init_good (b := b) pS pT)
  have a2 := p2_ok (init_good (b := b) pS pT)
  have a3 := p0_ok (init_good (b := false) pS pE)
  have a4 := p0_ok (init_good (b := b) pS pT')
  have a5 := p0_ok (init_good (b := !b) pS pT)
  have a6 := p0_ok (init_good (b := b) pR pT)
  have a7 := p0_ok (init_good (b := b) pO pT)
  have hR : rvA (.tup (ps.map sh)) = some (.tup (ps.reverse.map sh)) := by
    show (if fros (ps.map sh) = true then some (PV.tup (ps.map sh).reverse) else none) = _
    rw [if_pos (fros_shs ps), ← List.map_reverse]
  have hl : fLen (.tup (ps.map sh)) = some (.int (ps.length : Nat)) := by
    show some (PV.int ((ps.map sh).length : Nat)) = _
    rw [List.length_map]
  have l1 : cEq (.int (ps.length : Nat)) (.int 1) = some (decide (ps.length = 1)) := by
    rw [eq_ii]
    congr 1
    rw [Bool.eq_iff_iff]; simp
    omega
  have nm : ∀ {w : Bool}, f_Sending_names [.ins w 8 [.tup (ps.map sh), .tup (ts.map tv), .bl b]] = .ok (.tup ((ps.map (·.1)).map .str)) [.ins w 8 [.tup (ps.map sh), .tup (ts.map tv), .bl b]] := fun {w} => names_run pT.fr rfl
  have sH : plb 4 (.tup ((ps.map (·.1)).map .str)) = true := plb_map (fun x _ => rfl) (by rw [List.length_map]; have := hp.l7; omega)
  have sG : plb 4 (.tup [.tup (ps.map sh), .tup (ts.map tv), .bl b]) = true := by
    have h1 : plb 3 (.tup (ps.map sh)) = true := plb_map (fun p _ => plb_sh) (by have := hp.l7; omega)
    have h2 : plb 3 (.tup (ts.map tv)) = true := plb_map (fun p _ => plb_tv) (by omega)
    generalize PV.tup (ps.map sh) = S at h1 ⊢
    generalize PV.tup (ts.map tv) = T at h2 ⊢
    rw [plb]
    simp [h1, h2, plb]
  have sB : plb 5 (.tup [.tup (ps.map sh), .tup [], .bl false]) = true := by
    have h1 : plb 4 (.tup (ps.map sh)) = true := plb_map (fun p _ => plb_sh) (by have := hp.l7; omega)
    generalize PV.tup (ps.map sh) = S at h1 ⊢
    rw [plb]
    simp [h1, plb]
  have m1 : f__law_same 6 [.lst true [.tup ((ps.map (·.1)).map .str), .tup [.tup (ps.map sh), .tup (ts.map tv), .bl b]], .lst true [.tup ((ps.map (·.1)).map .str), .tup [.tup (ps.map sh), .tup (ts.map tv), .bl b]]] = .ok (.bl true) [.lst true [.tup ((ps.map (·.1)).map .str), .tup [.tup (ps.map sh), .tup (ts.map tv), .bl b]], .lst true [.tup ((ps.map (·.1)).map .str), .tup [.tup (ps.map sh), .tup (ts.map tv), .bl b]]] := same_lb (d := 4) (by rw [List.all_cons, List.all_cons, sH, sG]; rfl) (by simp)
  have m2 := same_plb sB
  have e5 : cEq (.tup [.tup (ps.map sh), .tup [], .bl false]) (.tup [.tup (ps.map sh), .tup (ts.map tv), .bl b]) = some (eqv (.tup (ps.map sh)) (.tup (ps.map sh)) && (eqv (.tup []) (.tup (ts.map tv)) && eqv (.bl false) (.bl b))) := eq_tup (dat3 dS dE) (dat3 dS dT)
  have eO : cEq (.tup ((ps.map odd1).map sh)) (.tup (ps.map sh)) = some (eqv (.tup ((ps.map odd1).map sh)) (.tup (ps.map sh))) := by
    unfold cEq
    rw [show dat deep (.tup ((ps.map odd1).map sh)) = true from dat_shs, show dat deep (.tup (ps.map sh)) = true from dat_shs]; rfl
  have g0 : ix (.tup [.tup (ps.map sh), .tup (ts.map tv), .bl b]) (.int 0) = some (.tup (ps.map sh)) := by
    show (atI [PV.tup (ps.map sh), .tup (ts.map tv), .bl b] 0).bind onlyFro = _
    rw [at0]; exact onlyFro_t pS.fr
  have g1 : ix (.tup [.tup (ps.map sh), .tup (ts.map tv), .bl b]) (.int 1) = some (.tup (ts.map tv)) := by
    show (atI [PV.tup (ps.map sh), .tup (ts.map tv), .bl b] 1).bind onlyFro = _
    rw [at1]; exact onlyFro_t pT.fr
  have g2 : ix (.tup [.tup (ps.map sh), .tup (ts.map tv), .bl b]) (.int 2) = some (.bl b) := by
    show (atI [PV.tup (ps.map sh), .tup (ts.map tv), .bl b] 2).bind onlyFro = _
    rfl
  have h8 := fun (i2 i3 h4 i5 i6 o7 : Option PV) => heads8 (M := .tup [.tup [.str "filled", .str x]]) (i2 := i2) (i3 := i3) (h4 := h4) (i5 := i5) (i6 := i6) (o7 := o7) g0
  have o8 := fun (i2 i3 h4 i5 i6 o7 : Option PV) => odds8 (M := .tup [.tup [.str "filled", .str x]]) (i2 := i2) (i3 := i3) (h4 := h4) (i5 := i5) (i6 := i6) (o7 := o7) g0
  have tH := tup_strs (ws := ps.map (·.1)) (w := true)
  have tO := tup_shs (ps := ps.map odd1) (w := true)
  have fG : fro (.tup [.tup (ps.map sh), .tup (ts.map tv), .bl b]) = true := by
    have := pS.fr; have := pT.fr; simp [*]
  have fM := pM.fr
  have fH : fro (.tup ((ps.map (·.1)).map PV.str)) = true := by simpa using fros_str (ps.map (·.1))
  have fS := pS.fr
  have fT := pT.fr
  have fR := pR.fr
  have fO := pO.fr
  have fT' := pT'.fr
  have q5 := fun (t : PV) (h : dat 19 t = true) (b' : Bool) => dat3 (b := b') dS h
  -- the instances
  have w1 : ∀ {oa ob : Opd} {ρ : Env}, te2 [8, 9] MT2 oa ob ρ [sd (.tup (ps.map sh)) (.tup (ts.map tv)) (.bl b), sd (.tup (ps.map sh)) (.tup (ts.map tv)) (.bl b)] = .ok true (giveAll [oa, ob] [sd (.tup (ps.map sh)) (.tup (ts.map tv)) (.bl b), sd (.tup (ps.map sh)) (.tup (ts.map tv)) (.bl b)] [sd (.tup (ps.map sh)) (.tup (ts.map tv)) (.bl b), sd (.tup (ps.map sh)) (.tup (ts.map tv)) (.bl b)] ρ) := fun {oa ob ρ} => by
    have := teI (w := true) (w' := true) (ρ := ρ) (oa := oa) (ob := ob) fS fT (show fro (.bl b) = true from rfl) fS fT (show fro (.bl b) = true from rfl) (dat3 dS dT) (dat3 dS dT)
    rw [rS, rT, rb] at this; exact this
  have w5 : ∀ {oa ob : Opd} {ρ : Env}, te2 [8, 9] MT2 oa ob ρ [sd (.tup (ps.map sh)) (.tup []) (.bl false), sd (.tup (ps.map sh)) (.tup (ts.map tv)) (.bl b)] = .ok (eqv (.tup (ps.map sh)) (.tup (ps.map sh)) && (eqv (.tup []) (.tup (ts.map tv)) && eqv (.bl false) (.bl b))) (giveAll [oa, ob] [sd (.tup (ps.map sh)) (.tup []) (.bl false), sd (.tup (ps.map sh)) (.tup (ts.map tv)) (.bl b)] [sd (.tup (ps.map sh)) (.tup []) (.bl false), sd (.tup (ps.map sh)) (.tup (ts.map tv)) (.bl b)] ρ) := fun {oa ob ρ} =>
    teI fS rfl rfl fS fT rfl (dat3 dS dE) (dat3 dS dT)
  have wG : ∀ {oa ob : Opd} {ρ : Env}, te2 [8, 9] MT2 oa ob ρ [sd (.tup (ps.map sh)) (.tup (ts.map tv)) (.bl b), .tup [.tup (ps.map sh), .tup (ts.map tv), .bl b]] = .ok false (giveAll [oa, ob] [sd (.tup (ps.map sh)) (.tup (ts.map tv)) (.bl b), .tup [.tup (ps.map sh), .tup (ts.map tv), .bl b]] [sd (.tup (ps.map sh)) (.tup (ts.map tv)) (.bl b), .tup [.tup (ps.map sh), .tup (ts.map tv), .bl b]] ρ) := fun {oa ob ρ} =>
    teT (by rw [← fro_tup]; exact fG) (by rw [← fro_tup]; exact fG)
  have w6 : ∀ {oa ob : Opd} {ρ : Env}, te2 [8, 9] MT2 oa ob ρ [sd (.tup (ps.map sh)) T' (.bl b), sd (.tup (ps.map sh)) (.tup (ts.map tv)) (.bl b)] = .ok false (giveAll [oa, ob] [sd (.tup (ps.map sh)) T' (.bl b), sd (.tup (ps.map sh)) (.tup (ts.map tv)) (.bl b)] [sd (.tup (ps.map sh)) T' (.bl b), sd (.tup (ps.map sh)) (.tup (ts.map tv)) (.bl b)] ρ) := fun {oa ob ρ} => by
    have := teI (w := true) (w' := true) (ρ := ρ) (oa := oa) (ob := ob) fS fT' (show fro (.bl b) = true from rfl) fS fT (show fro (.bl b) = true from rfl) (dat3 dS dT') (dat3 dS dT)
    rw [nT', rS] at this; exact this
  have wN : ∀ {oa ob : Opd} {ρ : Env}, te2 [8, 9] MT2 oa ob ρ [sd (.tup (ps.map sh)) (.tup (ts.map tv)) (.bl (!b)), sd (.tup (ps.map sh)) (.tup (ts.map tv)) (.bl b)] = .ok false (giveAll [oa, ob] [sd (.tup (ps.map sh)) (.tup (ts.map tv)) (.bl (!b)), sd (.tup (ps.map sh)) (.tup (ts.map tv)) (.bl b)] [sd (.tup (ps.map sh)) (.tup (ts.map tv)) (.bl (!b)), sd (.tup (ps.map sh)) (.tup (ts.map tv)) (.bl b)] ρ) := fun {oa ob ρ} => by
    have := teI (w := true) (w' := true) (ρ := ρ) (oa := oa) (ob := ob) fS fT (show fro (.bl (!b)) = true from rfl) fS fT (show fro (.bl b) = true from rfl) (dat3 dS dT) (dat3 dS dT)
    rw [bnot_bl, rT, rS] at this; exact this
  have wR : ∀ {oa ob : Opd} {ρ : Env}, te2 [8, 9] MT2 oa ob ρ [sd (.tup (ps.reverse.map sh)) (.tup (ts.map tv)) (.bl b), sd (.tup (ps.map sh)) (.tup (ts.map tv)) (.bl b)] = .ok (decide (ps.length = 1)) (giveAll [oa, ob] [sd (.tup (ps.reverse.map sh)) (.tup (ts.map tv)) (.bl b), sd (.tup (ps.map sh)) (.tup (ts.map tv)) (.bl b)] [sd (.tup (ps.reverse.map sh)) (.tup (ts.map tv)) (.bl b), sd (.tup (ps.map sh)) (.tup (ts.map tv)) (.bl b)] ρ) := fun {oa ob ρ} => by
    have := teI (w := true) (w' := true) (ρ := ρ) (oa := oa) (ob := ob) fR fT (show fro (.bl b) = true from rfl) fS fT (show fro (.bl b) = true from rfl) (dat3 dR dT) (dat3 dS dT)
    rw [rR, rT, rb] at this; simpa using this
  have wO : ∀ {oa ob : Opd} {ρ : Env}, te2 [8, 9] MT2 oa ob ρ [sd (.tup ((ps.map odd1).map sh)) (.tup (ts.map tv)) (.bl b), sd (.tup (ps.map sh)) (.tup (ts.map tv)) (.bl b)] = .ok (eqv (.tup ((ps.map odd1).map sh)) (.tup (ps.map sh))) (giveAll [oa, ob] [sd (.tup ((ps.map odd1).map sh)) (.tup (ts.map tv)) (.bl b), sd (.tup (ps.map sh)) (.tup (ts.map tv)) (.bl b)] [sd (.tup ((ps.map odd1).map sh)) (.tup (ts.map tv)) (.bl b), sd (.tup (ps.map sh)) (.tup (ts.map tv)) (.bl b)] ρ) := fun {oa ob ρ} => by
    have := teI (w := true) (w' := true) (ρ := ρ) (oa := oa) (ob := ob) fO fT (show fro (.bl b) = true from rfl) fS fT (show fro (.bl b) = true from rfl) (dat3 dO dT) (dat3 dS dT)
    rw [rT, rb, Bool.and_self, Bool.and_true] at this; exact this
  have k1 : ∀ {w : Bool}, f_Sending_parts [.ins w 8 [.tup (ps.map sh), .tup (ts.map tv), .bl b]] = .ok (.tup [.tup (ps.map sh), .tup (ts.map tv), .bl b]) [.ins w 8 [.tup (ps.map sh), .tup (ts.map tv), .bl b]] := fun {w} => parts_ok fS fT rfl
  have k5 : ∀ {w : Bool}, f_Sending_parts [.ins w 8 [.tup (ps.map sh), .tup [], .bl false]] = .ok (.tup [.tup (ps.map sh), .tup [], .bl false]) [.ins w 8 [.tup (ps.map sh), .tup [], .bl false]] := fun {w} => parts_ok fS rfl rfl
  exact good_core fG fM fH fS fT fR fO fT' g0 g1 g2 a1 a2 a3 a4 a5 a6 a7 hc hs hR hl l1 nm m1 m2 e5 eO h8 tH o8 tO w1 w5 wG w6 wN wR wO k1 k5
end Law
set_option Elab.async false
set_option linter.all false
set_option maxRecDepth 100000
set_option maxHeartbeats 4000000
/-! k14: one sending, good or wrong. -/
namespace Law
open PySem (Str)
open Tr Tr.Ev
theorem sl3 {xs : List PV} (f : fros xs = true) : sl (.tup xs) none (some 3) = some (.tup (xs.take 3)) := by
  show (if fros xs = true then some (PV.tup (cut xs none (some 3))) else none) = _
  rw [if_pos f]
  have e1 : sIx xs.length xs.length (some 3) = min 3 xs.length := rfl
  unfold cut
  rw [e1]
  show some (PV.tup (List.take (min 3 xs.length - 0) (List.drop 0 xs))) = _
  rw [List.drop_zero, Nat.sub_zero]
  by_cases h : 3 ≤ xs.length
  · rw [Nat.min_eq_left h]
  · rw [Nat.min_eq_right (by omega), List.take_length, List.take_of_length_le (by omega)]
abbrev RE4 (p : PV) (turn : Int) (C s t o G : PV) (wr : Int) (D : PV) : Env := [some p, some (.int turn), some C, some (.lst true [s, t, o]), some G, some (.int wr), some D, none]
section
variable {p C s t o G D : PV} {n turn wr : Int}
def ON6 : List PV := [.int 0, .int 1, .non, .str "", .lst false [], .str "no"]
theorem st_once {tb : Bool} (h : Pot p (n + 1)) (hn : 0 ≤ n) :
    ∃ (o' D' p' : PV), (sIf (tPV2 cGt (.nm 5) (.ev (eC (.int 3)))) (sSeq (sPutL 3 (eC (.int 2)) (eP2 ix (.ev (eFrz (eLst (aCons (eC (.int 0)) (aCons (eC (.int 1)) (aCons (eC .non) (aCons (eC (.str "")) (aCons (eFrz (eLst aNil)) (aCons (eC (.str "no")) aNil))))))))) (.ev (eCall f__law_draw [(.nm 0), (.ev (eC (.int 6)))] []))))
    (sSet 6 (eC (.str "once")))) sNx) (RE4 p turn C s t (.bl tb) G wr .non) = .nx (RE4 p' turn C s t o' G wr D') ∧ ((D' = .non ∧ o' = .bl tb) ∨ (D' = .str "once" ∧ isA .bool o' = some false ∧ fro o' = true)) ∧ Pot p' n := by
  by_cases c : 3 < wr
  · obtain ⟨d, p1, e1, d0, d1, h1⟩ := draw_ok (n := n) (m := 6) h hn (by decide) (by decide)
    obtain ⟨v, mv, ev, fv⟩ := pick_any (b := false) (xs := ON6) rfl d0 d1
    have w := h.own
    have nb : isA .bool v = some false := by
      simp only [ON6, List.mem_cons, List.not_mem_nil, or_false] at mv
      rcases mv with rfl | rfl | rfl | rfl | rfl | rfl <;> rfl
    simp only [ON6] at ev
    refine ⟨v, .str "once", p1, ?_, .inr ⟨rfl, nb, fv⟩, h1⟩
    simp -implicitDefEqProofs [c, e1, ev, w, -ix_l]
  · refine ⟨.bl tb, .non, p, ?_, .inl ⟨rfl, rfl⟩, h.less (by omega) (by omega)⟩
    simp -implicitDefEqProofs [c]
theorem st_tests {ts : List Tst} {x : Str} (h : Pot p (n + 10)) (hn : 0 ≤ n) (ht : ∀ t ∈ ts, TOk t) (l3 : ts.length < 100) (hx : WOk x) (gx : ix C (.int 0) = some (.str x)) (fo : fro o = true) (fs : fro s = true) :
    ∃ (t' D' p' : PV), (sIf (tPV2 cEq (.ev (eP2 bMod (.ev (eP1 fInt (.ev (eP2 bDiv (.nm 5) (.ev (eC (.int 2))))))) (.ev (eC (.int 2))))) (.ev (eC (.int 1)))) (sSeq (sPutL 3 (eC (.int 1)) (eCall f__law_wrong_tests [(.nm 0), (.ev (eP2 ix (.nm 3) (.ev (eC (.int 1))))), (.ev (eP2 ix (.nm 2) (.ev (eC (.int 0)))))] []))
    (sSet 6 (eC (.str "tests")))) sNx) (RE4 p turn C s (.tup (ts.map tv)) o G wr D) = .nx (RE4 p' turn C s t' o G wr D') ∧ ((D' = D ∧ t' = .tup (ts.map tv)) ∨ (D' = .str "tests" ∧ Sy f_are_tests t' false)) ∧ Pot p' n := by
  have dv : bDiv (.int wr) (.int 2) = some (.int (wr / 2)) := by rfl
  have md : bMod (.int (wr / 2)) (.int 2) = some (.int (wr / 2 % 2)) := mod_ii (by decide)
  by_cases c : wr / 2 % 2 = 1
  · obtain ⟨v, p1, e1, bv, h1⟩ := wrong_tests_draw (n := n) (x := x) h hn ht l3 hx
    have w := h.own
    have ft : fro (.tup (ts.map tv)) = true := by simpa using fros_tv ts
    have ot : onlyFro (.tup (ts.map tv)) = some (.tup (ts.map tv)) := onlyFro_t ft
    refine ⟨v, .str "tests", p1, ?_, .inr ⟨rfl, bv⟩, h1⟩
    generalize PV.tup (ts.map tv) = T at e1 ft ot ⊢
    simp -implicitDefEqProofs [eq_ii, dv, md, c, e1, gx, w, ot]
  · refine ⟨_, D, p, ?_, .inl ⟨rfl, rfl⟩, h.less (by omega) (by omega)⟩
    simp -implicitDefEqProofs [eq_ii, dv, md, c]
theorem st_shown {ps : List Sh} (h : Pot p (n + 10)) (hn : 0 ≤ n) (hp : ShsOk ps) (fo : fro o = true) (ft : fro t = true) :
    ∃ (s' D' p' : PV), (sIf (tPV2 cEq (.ev (eP2 bMod (.ev (eP1 fInt (.nm 5))) (.ev (eC (.int 2))))) (.ev (eC (.int 1)))) (sSeq (sPutL 3 (eC (.int 0)) (eCall f__law_wrong_shown [(.nm 0), (.ev (eP2 ix (.nm 3) (.ev (eC (.int 0)))))] []))
    (sSet 6 (eC (.str "shown")))) sNx) (RE4 p turn C (.tup (ps.map sh)) t o G wr D) = .nx (RE4 p' turn C s' t o G wr D') ∧ ((D' = D ∧ s' = .tup (ps.map sh)) ∨ (D' = .str "shown" ∧ Sy f_are_shown s' false)) ∧ Pot p' n := by
  have md : bMod (.int wr) (.int 2) = some (.int (wr % 2)) := mod_ii (by decide)
  by_cases c : wr % 2 = 1
  · obtain ⟨v, p1, e1, bv, h1⟩ := wrong_shown_draw (n := n) h hn hp
    have w := h.own
    have fs : fro (.tup (ps.map sh)) = true := by simpa using fros_shs ps
    have os : onlyFro (.tup (ps.map sh)) = some (.tup (ps.map sh)) := onlyFro_t fs
    refine ⟨v, .str "shown", p1, ?_, .inr ⟨rfl, bv⟩, h1⟩
    generalize PV.tup (ps.map sh) = S at e1 fs os ⊢
    simp -implicitDefEqProofs [eq_ii, md, c, e1, w, os]
  · refine ⟨_, D, p, ?_, .inl ⟨rfl, rfl⟩, h.less (by omega) (by omega)⟩
    simp -implicitDefEqProofs [eq_ii, md, c]
end
end Law
set_option Elab.async false
set_option linter.all false
set_option maxRecDepth 100000
set_option maxHeartbeats 4000000
/-! k14: the law gives True. -/
namespace Law
open PySem (Str)
open Tr Tr.Ev
theorem right_ok {p : PV} {n turn : Int} (h : Pot p (n + 300)) (hn : 0 ≤ n) : ∃ p', f__law_right [p, .int turn] = .ok (.bl true) [p', .int turn] ∧ Pot p' n := by
  obtain ⟨d, p1, e1, d0, d1, h1⟩ := draw_ok (n := n + 290) (m := 6) (h.less (by omega) (by omega)) (by omega) (by decide) (by decide)
  obtain ⟨ws, p2, e2, lw, hw, nd, h2⟩ := names_ok (n := n + 190) (m := 1 + d) (h1.less (by omega) (by omega)) (by omega) (by omega) (by omega)
  obtain ⟨ps, p3, e3, hp, _, h3⟩ := shown_draw (n := n + 140) (ws := ws) (h2.less (by omega) (by omega)) (by omega) hw nd (by omega) (by omega)
  obtain ⟨is, p4, e4, li, hi, h4⟩ := pool_ok (n := n + 130) (h3.less (by omega) (by omega)) (by omega)
  obtain ⟨ts, p5, e5, ht, _, lt, h5⟩ := tests_draw (n := n + 80) (ws := ws) (b := true) (is := is) (h4.less (by omega) (by omega)) (by omega) hw (by omega) (by omega) hi (by omega) (by omega)
  obtain ⟨wr, p6, e6, r0, r1, h6⟩ := draw_ok (n := n + 70) (m := 8) (h5.less (by omega) (by omega)) (by omega) (by decide) (by decide)
  have ht3 : ∀ t ∈ ts.take 3, TOk t := fun t m => ht t (List.mem_of_mem_take m)
  have l3 : (ts.take 3).length ≤ 8 := by have := List.length_take_le 3 ts; omega
  obtain ⟨x, ws', rfl⟩ : ∃ x ws', ws = x :: ws' := by
    cases ws with
    | nil => simp at lw; omega
    | cons x ws' => exact ⟨x, ws', rfl⟩
  have hx := hw x List.mem_cons_self
  have gx : ix (.tup ((x :: ws').map .str)) (.int 0) = some (.str x) := by
    show (atI (PV.str x :: ws'.map PV.str) 0).bind onlyFro = _
    rw [at0]; rfl
  have pS := shown_ok hp
  have pT := tests_ok ht3
  have fS := pS.fr
  have fT := pT.fr
  have fC : fro (.tup ((x :: ws').map PV.str)) = true := by simpa using fros_str (x :: ws')
  obtain ⟨o, D1, p7, e7, c7, h7⟩ := st_once (C := .tup ((x :: ws').map .str)) (s := .tup (ps.map sh)) (t := .tup ((ts.take 3).map tv)) (G := .tup [.tup (ps.map sh), .tup ((ts.take 3).map tv), .bl (decide (turn = 2))]) (turn := turn) (wr := wr) (tb := decide (turn = 2)) (n := n + 60) (h6.less (by omega) (by omega)) (by omega)
  have fo : fro o = true := c7.elim (fun z => by rw [z.2]; rfl) fun z => z.2.2
  obtain ⟨t, D2, p8, e8, c8, h8⟩ := st_tests (C := .tup ((x :: ws').map .str)) (s := .tup (ps.map sh)) (G := .tup [.tup (ps.map sh), .tup ((ts.take 3).map tv), .bl (decide (turn = 2))]) (turn := turn) (wr := wr) (D := D1) (o := o) (n := n + 40) (h7.less (by omega) (by omega)) (by omega) ht3 (by omega) hx gx fo fS
  have ft : fro t = true := c8.elim (fun z => by rw [z.2]; exact fT) fun z => z.2.fr
  obtain ⟨s, D3, p9, e9, c9, h9⟩ := st_shown (C := .tup ((x :: ws').map .str)) (t := t) (G := .tup [.tup (ps.map sh), .tup ((ts.take 3).map tv), .bl (decide (turn = 2))]) (turn := turn) (wr := wr) (D := D2) (o := o) (n := n + 20) (h8.less (by omega) (by omega)) (by omega) hp fo ft
  have fs : fro s = true := c9.elim (fun z => by rw [z.2]; exact fS) fun z => z.2.fr
  obtain ⟨y, p10, e10, y0, y1, h10⟩ := draw_ok (n := n) (m := 3) (h9.less (by omega) (by omega)) (by omega) (by decide) (by decide)
  have hy : y = 0 ∨ y = 1 ∨ y = 2 := by omega
  have told : (D3 = .non ∧ f__law_refused [.lst true [s, t, o], .int y] = .ok .non [.lst true [s, t, o], .int y]) ∨ ∃ part : Str, D3 = .str part ∧ f__law_refused [.lst true [s, t, o], .int y] = .ok (.tup [.str part, .bl true]) [.lst true [s, t, o], .int y] := by
    rcases c9 with ⟨rfl, rfl⟩ | ⟨rfl, bs⟩
    · rcases c8 with ⟨rfl, rfl⟩ | ⟨rfl, bt⟩
      · rcases c7 with ⟨rfl, rfl⟩ | ⟨rfl, bo, _⟩
        · exact .inl ⟨rfl, refused_ok (init_good pS pT) fs ft fo hy⟩
        · exact .inr ⟨_, rfl, refused_er (init_once pS pT bo) fs ft fo hy⟩
      · exact .inr ⟨_, rfl, refused_er (init_tests pS bt fo) fs ft fo hy⟩
    · exact .inr ⟨_, rfl, refused_er (init_shown bs ft fo) fs ft fo hy⟩
  have gd := good_right (b := decide (turn = 2)) hp ht3 (by omega) hx
  have w := h.own
  have w1 := h1.own
  have w2 := h2.own
  have w3 := h3.own
  have w4 := h4.own
  have w5 := h5.own
  have w9 := h9.own
  have w10 := h10.own
  have s3 := sl3 (fros_tv ts)
  rw [← List.map_take] at s3
  have tq : cEq (.int turn) (.int 2) = some (decide (turn = 2)) := eq_ii
  have fG : fro (.tup [.tup (ps.map sh), .tup ((ts.take 3).map tv), .bl (decide (turn = 2))]) = true := by simp only [fro_tup, fros] at fS fT ⊢; rw [fS, fT]; rfl
  have ftup : fTuple (.lst true [.tup (ps.map sh), .tup ((ts.take 3).map tv), .bl (decide (turn = 2))]) = some (.tup [.tup (ps.map sh), .tup ((ts.take 3).map tv), .bl (decide (turn = 2))]) := by
    show (if fros [PV.tup (ps.map sh), .tup ((ts.take 3).map tv), .bl (decide (turn = 2))] = true then _ else _) = _
    rw [if_pos (by rw [← fro_tup]; exact fG)]
  refine ⟨p10, ?_, h10⟩
  simp only [f__law_right, b__law_right]
  rw [mk_eq rfl]
  simp -implicitDefEqProofs only [List.map_cons, List.map_nil, List.length_cons, List.length_nil, List.cons_append, List.nil_append, List.replicate]
  generalize PV.tup ((x :: ws').map PV.str) = C at e2 e3 e5 gx fC e7 e8 e9
  generalize decide (turn = 2) = tb at e7 e8 e9 gd tq fG ftup
  generalize hG : PV.tup [.tup (ps.map sh), .tup ((ts.take 3).map tv), .bl tb] = G at e7 e8 e9 gd fG ftup
  generalize PV.tup ((ts.take 3).map tv) = T at e7 e8 s3 ftup fT
  generalize PV.tup (ps.map sh) = S at e3 e7 e8 e9 ftup fS
  generalize PV.tup (ts.map tv) = TT at e5 s3
  generalize PV.lst true (is.map PV.int) = I at e4 e5
  rw [seq_nx (ρ1 := [some p2, some (.int turn), some C, none, none, none, none, none]) (by simp -implicitDefEqProofs [e1, e2, w, w1]) rfl,
    seq_nx (ρ1 := [some p5, some (.int turn), some C, some (.lst true [S, T, .bl tb]), none, none, none, none]) (by simp -implicitDefEqProofs [e3, e4, e5, s3, tq, fC, w2, w3, w4]) rfl,
    seq_nx (ρ1 := RE4 p6 turn C S T (.bl tb) G wr .non) (by simp -implicitDefEqProofs [ftup, e6, w5]) rfl,
    seq_nx e7 rfl, seq_nx e8 rfl, seq_nx e9 rfl]
  rcases told with ⟨rfl, er⟩ | ⟨part, rfl, er⟩
  · have sm : f__law_same 6 [.non, .non] = .ok (.bl true) [.non, .non] := same_plb (d := 5) rfl
    simp -implicitDefEqProofs [e10, er, sm, w9, w10, gx, gd, fG, eOr]
  · have sm : f__law_same 6 [.tup [.str part, .bl true], .tup [.str part, .bl true]] = .ok (.bl true) [.tup [.str part, .bl true], .tup [.str part, .bl true]] := same_plb (d := 5) rfl
    have nn : cNotN (.str part) = some true := rfl
    have n2 : cIsN (.str part) = some false := rfl
    simp -implicitDefEqProofs [e10, er, sm, w9, w10, nn, n2, eOr]
end Law
set_option Elab.async false
set_option linter.all false
set_option maxRecDepth 100000
set_option maxHeartbeats 4000000
/-! k14: the whole law gives True. -/
namespace Law
open PySem (Str)
open Tr Tr.Ev
theorem mul_small {i j : Int} (i0 : 0 ≤ i) (i1 : i < 2 ^ 200) (j0 : 0 ≤ j) (j1 : j < 2 ^ 200) : bMul (.int i) (.int j) = some (.int (i * j)) :=
  mul_ii (mulOk_lt (by have := log2_lt i0 i1 (by decide); have := log2_lt j0 j1 (by decide); omega))
theorem pick_int {ns : List Int} {k : Nat} (h : k < ns.length) : ix (.lst false (ns.map .int)) (.int (k : Nat)) = some (.int ns[k]) := by
  obtain ⟨x, hx, hat⟩ := at_list (xs := ns.map PV.int) (i := (k : Nat)) (by omega) (by simpa using h)
  rw [List.getElem?_map, Int.toNat_natCast, List.getElem?_eq_getElem h] at hx
  cases hx
  show (atI _ _).bind onlyFro = _
  rw [hat]; rfl
theorem well_ok {ns : List Int} {k : Nat} (hk : k < 100) : ∃ p, f__law_well [.lst false (ns.map .int), .int (k : Nat)] = .ok p [.lst false (ns.map .int), .int (k : Nat)] ∧ Pot p 2000 := by
  obtain ⟨r, hr⟩ : ∃ r : Int, r = if h : k < ns.length then ns[k] else 0 - (k : Nat) := ⟨_, rfl⟩
  obtain ⟨a, ha⟩ : ∃ a : Int, a = (if r < 0 then -r else r) := ⟨_, rfl⟩
  obtain ⟨dp, hd⟩ : ∃ dp : Int, dp = (if a - 1000000000000000000 > 0 then a - 1000000000000000000 else 0) := ⟨_, rfl⟩
  have ab : fAbs (.int r) = some (.int a) := by rw [ha]; rfl
  have mx : fMax2 (.int 0) (.int (a - 1000000000000000000)) = some (.int dp) := by rw [hd]; rfl
  obtain ⟨m0, m1⟩ := mod_b (x := a) (m := 1000000000000000000) (by decide)
  have md : bMod (.int a) (.int 1000000000000000000) = some (.int (a % 1000000000000000000)) := mod_ii (by decide)
  generalize a % 1000000000000000000 = z at m0 m1 md
  have k1 : bMul (.int z) (.int 2) = some (.int (z * 2)) := mul_small m0 (by omega) (by decide) (by decide)
  have k2 : bMul (.int 97) (.int (k : Nat)) = some (.int (97 * (k : Nat))) := mul_small (by decide) (by decide) (by omega) (by omega)
  have bb : 0 ≤ b2i (decide (r < 0)) ∧ b2i (decide (r < 0)) ≤ 1 := by unfold b2i; split <;> omega
  have fin : ∃ q, q = pot dp (z * 2 + b2i (decide (r < 0)) + 97 * (k : Nat)) 1 ∧ Pot q 2000 := ⟨_, rfl, ⟨_, _, _, rfl, by omega, by omega, by decide, by decide⟩, by decide⟩
  obtain ⟨q, hq, hp⟩ := fin
  refine ⟨q, ?_, hp⟩
  have lt : cLt (.int (k : Nat)) (.int (ns.length : Nat)) = some (decide (k < ns.length)) := by
    show some (decide (((k : Nat) : Int) < (ns.length : Nat))) = _
    congr 1
    rw [Bool.eq_iff_iff]; simp
  have fi := fros_ints ns
  simp only [f__law_well, b__law_well]
  rw [mk_eq rfl]
  rw [hq]
  by_cases c : k < ns.length
  · have pk := pick_int c
    rw [dif_pos c] at hr
    rw [← hr] at pk
    simp -implicitDefEqProofs [c, pk, ab, mx, md, e18, k1, k2, fi, pot, -ix_l, -abs_i, -max_ii]
  · rw [dif_neg c] at hr
    have sb : bSub (.int 0) (.int (k : Nat)) = some (.int r) := by rw [hr]; rfl
    have mx2 : bSub (.int a) (.int 1000000000000000000) = some (.int (a - 1000000000000000000)) := rfl
    have ad1 : ∀ i j : Int, bAdd (.int i) (.int j) = some (.int (i + j)) := fun _ _ => rfl
    simp -implicitDefEqProofs [c, sb, mx2, ab, mx, md, e18, k1, k2, fi, pot, -ix_l, -abs_i, -max_ii, -sub_ii]

def E7 : List Nat := [97, 98, 99, 100, 101, 102, 103]
def seven : List Sh := E7.map fun c => (⟨#[c]⟩, 2)
theorem e7_list : ("abcdefg" : Str).cps.toList = E7 := by decide +kernel
theorem one_wok {c : Nat} (h : c ∈ E7) : WOk ⟨#[c]⟩ := by
  simp only [E7, List.mem_cons, List.not_mem_nil, or_false] at h
  rcases h with rfl | rfl | rfl | rfl | rfl | rfl | rfl <;> exact ⟨by decide +kernel, by decide +kernel, by decide +kernel, by decide +kernel⟩
theorem seven_ok : ShsOk seven := by
  refine ⟨fun p hp => ?_, by decide +kernel, by decide, by decide⟩
  obtain ⟨c, hc, rfl⟩ := List.mem_map.mp hp
  have w := one_wok hc
  exact ⟨.inl w, (by decide : (1 : Int) ≤ 2), (by decide : (2 : Int) ≤ 1000000000), fun e => absurd e w.key⟩
theorem seven_run {ρ0 : PV} {o1 o2 o3 : Option PV} : eComp [5] (iS (eC (.str "abcdefg"))) (bN 5) tYes (eTup (aCons (eNm 5) (aCons (eC (.int 2)) aNil))) [some ρ0, o1, o2, o3, none, none] = .ok (.lst true (seven.map sh)) [some ρ0, o1, o2, o3, none, none] := by
  have hw := iS_run (f := eC (.str "abcdefg")) (ρ := [some ρ0, o1, o2, o3, none, none]) (z := "abcdefg") rfl
  rw [e7_list] at hw
  have core := comp_pure (own := [5]) (b := bN 5) (t := tYes) (f := eTup (aCons (eNm 5) (aCons (eC (.int 2)) aNil))) (ρ := [some ρ0, o1, o2, o3, none, none]) ch (fun _ => true) (fun c => PV.tup [ch c, .int 2]) (l := E7) fun c _ =>
    ⟨[some ρ0, o1, o2, o3, none, some (ch c)], _, rfl, rfl, (fun h => by cases h), fun _ => ⟨[some ρ0, o1, o2, o3, none, some (ch c)], by simp -implicitDefEqProofs, by simp⟩⟩
  have e2 := eComp_run (own := [5]) hw core
  have e3 : ((E7.filter fun _ => true).map fun c => PV.tup [ch c, .int 2]) = seven.map sh := by
    rw [filter_t]
    unfold seven
    rw [List.map_map]
    rfl
  rw [e3] at e2
  rw [e2]
  simp
theorem turns_run {p : PV} {o1 o3 : Option PV} {s : PV} (h : Pot p 1600) :
    ∃ p' o3', sFor (iRange1 (eC (.int 5))) (bN 3) (sIf (tNot (tE (eCall f__law_right [(.nm 2), (.nm 3)] []))) (sRet (eC (.bl false))) sNx) [some s, o1, some p, o3, none, none] = .nx [some s, o1, some p', o3', none, none] := by
  obtain ⟨ρ', e, p', o3', rfl, _⟩ := loop_run (b := bN 3) (s := (sIf (tNot (tE (eCall f__law_right [(.nm 2), (.nm 3)] []))) (sRet (eC (.bl false))) sNx)) (xs := (List.range 5).map fun i => PV.int (i : Nat)) (ρ := [some s, o1, some p, o3, none, none])
    (fun i ρ => ∃ p o3, ρ = [some s, o1, some p, o3, none, none] ∧ Pot p (1600 - 310 * i)) ⟨p, o3, rfl, h.less (by omega) (by omega)⟩ fun i x ρ hx hp => by
      obtain ⟨p, o3, rfl, hq⟩ := hp
      obtain ⟨hlt, rfl⟩ := range_get hx
      obtain ⟨p', e, h'⟩ := right_ok (n := 1600 - 310 * ((i + 1 : Nat) : Int)) (turn := (i : Nat)) (hq.less (by omega) (by omega)) (by omega)
      have w := hq.own
      exact ⟨_, rfl, .inl ⟨[some s, o1, some p', some (.int (i : Nat)), none, none], by simp -implicitDefEqProofs [e, w], p', _, rfl, h'⟩⟩
  exact ⟨p', o3', sFor_run rfl e⟩
theorem law_true (ns : List Int) (hl : ns.length ≤ 63) (hb : ∀ z ∈ ns, PySem.Builtin.Int.intBits z ≤ 1048576) : ∃ as, f_law [.lst false (ns.map .int)] = .ok (.bl true) as := by
  obtain ⟨m, hm⟩ : ∃ m : Int, m = (if (if ((ns.length : Nat) : Int) < 10 then ((ns.length : Nat) : Int) else 10) > 1 then (if ((ns.length : Nat) : Int) < 10 then ((ns.length : Nat) : Int) else 10) else 1) := ⟨_, rfl⟩
  have m0 : 0 ≤ m ∧ m ≤ 10 := by rw [hm]; split <;> split <;> omega
  obtain ⟨ρ', e, o1, o2, o3, rfl⟩ := loop_run (b := bN 1) (s := (sSeq (sSet 2 (eCall f__law_well [(.nm 0), (.nm 1)] []))
    (sFor (iRange1 (eC (.int 5))) (bN 3) (sIf (tNot (tE (eCall f__law_right [(.nm 2), (.nm 3)] []))) (sRet (eC (.bl false))) sNx)))) (xs := (List.range m.toNat).map fun i => PV.int (i : Nat)) (ρ := [some (.lst false (ns.map .int)), none, none, none, none, none])
    (fun i ρ => ∃ o1 o2 o3 : Option PV, ρ = [some (.lst false (ns.map .int)), o1, o2, o3, none, none]) ⟨none, none, none, rfl⟩ fun i x ρ hx hp => by
      obtain ⟨o1, o2, o3, rfl⟩ := hp
      obtain ⟨hi, rfl⟩ := range_get hx
      obtain ⟨q, e1, hq⟩ := well_ok (ns := ns) (k := i) (by omega)
      obtain ⟨p', o3', e2⟩ := turns_run (p := q) (o1 := some (.int (i : Nat))) (o3 := o3) (s := .lst false (ns.map .int)) (hq.less (by decide) (by decide))
      refine ⟨_, rfl, .inl ⟨[some (.lst false (ns.map .int)), some (.int (i : Nat)), some p', o3', none, none], ?_, _, _, _, rfl⟩⟩
      exact seq_nx (ρ1 := [some (.lst false (ns.map .int)), some (.int (i : Nat)), some q, o3, none, none]) (by simp -implicitDefEqProofs [e1, fros_ints]) e2
  have mn : fMin2 (.int 10) (.int (ns.length : Nat)) = some (.int (if ((ns.length : Nat) : Int) < 10 then ((ns.length : Nat) : Int) else 10)) := rfl
  have mx : fMax2 (.int 1) (.int (if ((ns.length : Nat) : Int) < 10 then ((ns.length : Nat) : Int) else 10)) = some (.int m) := by rw [hm]; rfl
  have hr : iRange1 (eP2 fMax2 (.ev (eC (.int 1))) (.ev (eP2 fMin2 (.ev (eC (.int 10))) (.ev (eP1 fLen (.nm 0)))))) [some (.lst false (ns.map .int)), none, none, none, none, none] = .ok ((List.range m.toNat).map fun i => PV.int (i : Nat)) [some (.lst false (ns.map .int)), none, none, none, none, none] :=
    range1_run (n := m) (by
      generalize (if ((ns.length : Nat) : Int) < 10 then ((ns.length : Nat) : Int) else 10) = z at mn mx
      simp -implicitDefEqProofs [mn, mx, -max_ii, -min_ii]) m0.1 (by omega)
  have e2 := sFor_run hr e
  have pS := shown_ok seven_ok
  have a3 := p0_ok (init_good (b := false) pS (tests_ok (ts := []) (fun t h => by cases h)))
  have nm : ∀ {w : Bool}, f_Sending_names [.ins w 8 [.tup (seven.map sh), .tup [], .bl false]] = .ok (.tup ((seven.map (·.1)).map .str)) [.ins w 8 [.tup (seven.map sh), .tup [], .bl false]] := fun {w} => names_run rfl rfl
  have ls : fListS (.str "abcdefg") = some (.lst true ((seven.map (·.1)).map .str)) := by
    show some (PV.lst true (("abcdefg" : Str).cps.toList.map ch)) = _
    rw [e7_list]
    unfold seven
    rw [List.map_map, List.map_map]
    rfl
  have tu := tup_strs (ws := seven.map (·.1)) (w := true)
  have sm : f__law_same 6 [.tup ((seven.map (·.1)).map .str), .tup ((seven.map (·.1)).map .str)] = .ok (.bl true) [.tup ((seven.map (·.1)).map .str), .tup ((seven.map (·.1)).map .str)] := same_plb (d := 5) (plb_map (fun x _ => rfl) (by decide))
  refine ⟨[.lst false (ns.map .int)], ?_⟩
  simp only [f_law, b_law]
  rw [mk_eq rfl]
  simp only [List.map_cons, List.map_nil, List.length_cons, List.length_nil, List.cons_append, List.nil_append, List.replicate]
  have sr := seven_run (ρ0 := .lst false (ns.map .int)) (o1 := o1) (o2 := o2) (o3 := o3)
  have fe : fTuple (.lst true (seven.map sh)) = some (.tup (seven.map sh)) := tup_shs
  simp only [sd, List.map_nil] at a3
  generalize PV.tup ((seven.map (·.1)).map .str) = H at nm tu sm
  generalize PV.lst true ((seven.map (·.1)).map .str) = HL at ls tu
  generalize PV.tup (seven.map sh) = S at a3 nm fe
  generalize PV.lst true (seven.map sh) = S7 at sr fe
  have f0 : fro (.lst false (ns.map PV.int)) = true := by simp [fros_ints]
  generalize PV.lst false (ns.map PV.int) = L at e2 sr f0 ⊢
  rw [seq_nx e2 rfl, seq_nx (ρ1 := [some L, o1, o2, o3, some (.ins true 8 [S, .tup [], .bl false]), none]) (by simp -implicitDefEqProofs [sr, fe, g01, a3]) rfl]
  simp -implicitDefEqProofs [nm, ls, tu, sm, f0]
end Law
set_option Elab.async false
set_option linter.all false
set_option maxRecDepth 100000
namespace Law
open PySem PySem.Spec L2 Tr
set_option maxHeartbeats 4000000 in
theorem all_mk {P : Program} {w : World} {K : PySem.W.Frag} {h : Heap} {mg : Str → Option Value} {fa : Addr} {lv : List (Str × PySem.W.WData)} (KX : K.In h) (GT : h.Ns mainGlobals mg) (LA : PySem.W.LooseAre lv mg h) (hlv : lv = ([(("MOST" : Str), PySem.W.WData.int 1000000000000000000000000000000), (("GREATEST_GRAIN" : Str), PySem.W.WData.int 1000000000)] : List (Str × PySem.W.WData))) (hfa : mg "law" = some (.ref fa))
    {tk_KEY : Tok} (g_KEY : PySem.W.nsIn K mainGlobals "KEY" = some (some (.str "key" tk_KEY)))
    {tk_LETTERS : Tok} (g_LETTERS : PySem.W.nsIn K mainGlobals "LETTERS" = some (some (.str "abcdefghijklmnopqrstuvwxyz" tk_LETTERS)))
    {tk_MOST_SHOWN : Tok} (g_MOST_SHOWN : PySem.W.nsIn K mainGlobals "MOST_SHOWN" = some (some (.int 7 tk_MOST_SHOWN)))
    (b_ValueError : PySem.W.nsIn K mainGlobals "ValueError" = some none)
    (b_abs : PySem.W.nsIn K mainGlobals "abs" = some none)
    (b_all : PySem.W.nsIn K mainGlobals "all" = some none)
    (b_bool : PySem.W.nsIn K mainGlobals "bool" = some none)
    (b_int : PySem.W.nsIn K mainGlobals "int" = some none)
    (b_isinstance : PySem.W.nsIn K mainGlobals "isinstance" = some none)
    (b_len : PySem.W.nsIn K mainGlobals "len" = some none)
    (b_list : PySem.W.nsIn K mainGlobals "list" = some none)
    (b_max : PySem.W.nsIn K mainGlobals "max" = some none)
    (b_min : PySem.W.nsIn K mainGlobals "min" = some none)
    (b_range : PySem.W.nsIn K mainGlobals "range" = some none)
    (b_set : PySem.W.nsIn K mainGlobals "set" = some none)
    (b_str : PySem.W.nsIn K mainGlobals "str" = some none)
    (b_tuple : PySem.W.nsIn K mainGlobals "tuple" = some none)
    {oa8 : Addr}
    (on8 : PySem.W.nsIn K mainGlobals "Sending" = some (some (.ref oa8)))
    {oa9 : Addr}
    (on9 : PySem.W.nsIn K mainGlobals "Sheet" = some (some (.ref oa9)))
    {f0 : Addr} {oc0 kV0 doc0 pm0 cd0 ct0 : Value} {od0 an0 : Option Addr} {sl0 : Array (Option Value)} (a0 : PySem.W.nsIn K mainGlobals "are_distinct" = some (some (.ref f0))) (l0 : K.lookup f0 = some ⟨oc0, od0, .func (PySem.W.fnOf "are_distinct" "are_distinct" (defArgs (top 17)) (defBody (top 17)) (defScope (top 17)) .none kV0 doc0 pm0 an0 cd0 ct0), sl0⟩) (c0 : PySem.W.codeIn K cd0 "are_distinct" = true) (k0 : PySem.W.keepIn K (.ref f0) = true)
    {f1 : Addr} {oc1 kV1 doc1 pm1 cd1 ct1 : Value} {od1 an1 : Option Addr} {sl1 : Array (Option Value)} (a1 : PySem.W.nsIn K mainGlobals "is_name" = some (some (.ref f1))) (l1 : K.lookup f1 = some ⟨oc1, od1, .func (PySem.W.fnOf "is_name" "is_name" (defArgs (top 15)) (defBody (top 15)) (defScope (top 15)) .none kV1 doc1 pm1 an1 cd1 ct1), sl1⟩) (c1 : PySem.W.codeIn K cd1 "is_name" = true) (k1 : PySem.W.keepIn K (.ref f1) = true)
    {f2 : Addr} {oc2 kV2 doc2 pm2 cd2 ct2 : Value} {od2 an2 : Option Addr} {sl2 : Array (Option Value)} (a2 : PySem.W.nsIn K mainGlobals "is_item" = some (some (.ref f2))) (l2 : K.lookup f2 = some ⟨oc2, od2, .func (PySem.W.fnOf "is_item" "is_item" (defArgs (top 16)) (defBody (top 16)) (defScope (top 16)) .none kV2 doc2 pm2 an2 cd2 ct2), sl2⟩) (c2 : PySem.W.codeIn K cd2 "is_item" = true) (k2 : PySem.W.keepIn K (.ref f2) = true)
    {f3 : Addr} {oc3 kV3 doc3 pm3 cd3 ct3 : Value} {od3 an3 : Option Addr} {sl3 : Array (Option Value)} (a3 : PySem.W.nsIn K mainGlobals "is_whole" = some (some (.ref f3))) (l3 : K.lookup f3 = some ⟨oc3, od3, .func (PySem.W.fnOf "is_whole" "is_whole" (defArgs (top 14)) (defBody (top 14)) (defScope (top 14)) .none kV3 doc3 pm3 an3 cd3 ct3), sl3⟩) (c3 : PySem.W.codeIn K cd3 "is_whole" = true) (k3 : PySem.W.keepIn K (.ref f3) = true)
    {f4 : Addr} {oc4 kV4 doc4 pm4 cd4 ct4 : Value} {od4 an4 : Option Addr} {sl4 : Array (Option Value)} (a4 : PySem.W.nsIn K mainGlobals "is_grain" = some (some (.ref f4))) (l4 : K.lookup f4 = some ⟨oc4, od4, .func (PySem.W.fnOf "is_grain" "is_grain" (defArgs (top 24)) (defBody (top 24)) (defScope (top 24)) .none kV4 doc4 pm4 an4 cd4 ct4), sl4⟩) (c4 : PySem.W.codeIn K cd4 "is_grain" = true) (k4 : PySem.W.keepIn K (.ref f4) = true)
    {f5 : Addr} {oc5 kV5 doc5 pm5 cd5 ct5 : Value} {od5 an5 : Option Addr} {sl5 : Array (Option Value)} (a5 : PySem.W.nsIn K mainGlobals "is_show" = some (some (.ref f5))) (l5 : K.lookup f5 = some ⟨oc5, od5, .func (PySem.W.fnOf "is_show" "is_show" (defArgs (top 25)) (defBody (top 25)) (defScope (top 25)) .none kV5 doc5 pm5 an5 cd5 ct5), sl5⟩) (c5 : PySem.W.codeIn K cd5 "is_show" = true) (k5 : PySem.W.keepIn K (.ref f5) = true)
    {f6 : Addr} {oc6 kV6 doc6 pm6 cd6 ct6 : Value} {od6 an6 : Option Addr} {sl6 : Array (Option Value)} (a6 : PySem.W.nsIn K mainGlobals "are_shown" = some (some (.ref f6))) (l6 : K.lookup f6 = some ⟨oc6, od6, .func (PySem.W.fnOf "are_shown" "are_shown" (defArgs (top 26)) (defBody (top 26)) (defScope (top 26)) .none kV6 doc6 pm6 an6 cd6 ct6), sl6⟩) (c6 : PySem.W.codeIn K cd6 "are_shown" = true) (k6 : PySem.W.keepIn K (.ref f6) = true)
    {f7 : Addr} {oc7 kV7 doc7 pm7 cd7 ct7 : Value} {od7 an7 : Option Addr} {sl7 : Array (Option Value)} (a7 : PySem.W.nsIn K mainGlobals "is_number" = some (some (.ref f7))) (l7 : K.lookup f7 = some ⟨oc7, od7, .func (PySem.W.fnOf "is_number" "is_number" (defArgs (top 19)) (defBody (top 19)) (defScope (top 19)) .none kV7 doc7 pm7 an7 cd7 ct7), sl7⟩) (c7 : PySem.W.codeIn K cd7 "is_number" = true) (k7 : PySem.W.keepIn K (.ref f7) = true)
    {f8 : Addr} {oc8 kV8 doc8 pm8 cd8 ct8 : Value} {od8 an8 : Option Addr} {sl8 : Array (Option Value)} (a8 : PySem.W.nsIn K mainGlobals "is_cell" = some (some (.ref f8))) (l8 : K.lookup f8 = some ⟨oc8, od8, .func (PySem.W.fnOf "is_cell" "is_cell" (defArgs (top 20)) (defBody (top 20)) (defScope (top 20)) .none kV8 doc8 pm8 an8 cd8 ct8), sl8⟩) (c8 : PySem.W.codeIn K cd8 "is_cell" = true) (k8 : PySem.W.keepIn K (.ref f8) = true)
    {f9 : Addr} {oc9 kV9 doc9 pm9 cd9 ct9 : Value} {od9 an9 : Option Addr} {sl9 : Array (Option Value)} (a9 : PySem.W.nsIn K mainGlobals "is_test" = some (some (.ref f9))) (l9 : K.lookup f9 = some ⟨oc9, od9, .func (PySem.W.fnOf "is_test" "is_test" (defArgs (top 27)) (defBody (top 27)) (defScope (top 27)) .none kV9 doc9 pm9 an9 cd9 ct9), sl9⟩) (c9 : PySem.W.codeIn K cd9 "is_test" = true) (k9 : PySem.W.keepIn K (.ref f9) = true)
    {f10 : Addr} {oc10 kV10 doc10 pm10 cd10 ct10 : Value} {od10 an10 : Option Addr} {sl10 : Array (Option Value)} (a10 : PySem.W.nsIn K mainGlobals "are_tests" = some (some (.ref f10))) (l10 : K.lookup f10 = some ⟨oc10, od10, .func (PySem.W.fnOf "are_tests" "are_tests" (defArgs (top 28)) (defBody (top 28)) (defScope (top 28)) .none kV10 doc10 pm10 an10 cd10 ct10), sl10⟩) (c10 : PySem.W.codeIn K cd10 "are_tests" = true) (k10 : PySem.W.keepIn K (.ref f10) = true)
    {tD11 : Addr}
    {f11 : Addr} {oc11 kV11 doc11 pm11 cd11 ct11 : Value} {od11 an11 : Option Addr} {sl11 : Array (Option Value)} (a11 : PySem.W.findIn K (.ref oa8) "__init__" = some (some (.ref f11))) (i11 : PySem.W.isFn K (.ref f11) = true) (j11 : PySem.W.fnIn K f11 = true) (l11 : K.lookup f11 = some ⟨oc11, od11, .func (PySem.W.fnOf "__init__" "Sending.__init__" (defArgs (inClass (top 32) 0)) (defBody (inClass (top 32) 0)) (defScope (inClass (top 32) 0)) (.ref tD11) kV11 doc11 pm11 an11 cd11 ct11), sl11⟩) (c11 : PySem.W.codeIn K cd11 "Sending.__init__" = true) (k11 : PySem.W.keepIn K (.ref f11) = true)
    {te11_0 : Addr} {tn11_0 : Nat} {ts11_0 : Array (Option Value)}
    {dn11 : Nat} {ds11 : Array (Option Value)}
    (dl11 : K.lookup tD11 = some ⟨.type "tuple", none, .seq ([.ref te11_0, .bool false] : List Value).toArray dn11, ds11⟩)
    (de11_0 : K.lookup te11_0 = some ⟨.type "tuple", none, .seq #[] tn11_0, ts11_0⟩)
    {f12 : Addr} {oc12 kV12 doc12 pm12 cd12 ct12 : Value} {od12 an12 : Option Addr} {sl12 : Array (Option Value)} (a12 : PySem.W.findIn K (.ref oa8) "names" = some (some (.ref f12))) (i12 : PySem.W.isFn K (.ref f12) = true) (j12 : PySem.W.fnIn K f12 = true) (l12 : K.lookup f12 = some ⟨oc12, od12, .func (PySem.W.fnOf "names" "Sending.names" (defArgs (inClass (top 32) 1)) (defBody (inClass (top 32) 1)) (defScope (inClass (top 32) 1)) .none kV12 doc12 pm12 an12 cd12 ct12), sl12⟩) (c12 : PySem.W.codeIn K cd12 "Sending.names" = true) (k12 : PySem.W.keepIn K (.ref f12) = true)
    {f13 : Addr} {oc13 kV13 doc13 pm13 cd13 ct13 : Value} {od13 an13 : Option Addr} {sl13 : Array (Option Value)} (a13 : PySem.W.findIn K (.ref oa9) "names" = some (some (.ref f13))) (i13 : PySem.W.isFn K (.ref f13) = true) (j13 : PySem.W.fnIn K f13 = true) (l13 : K.lookup f13 = some ⟨oc13, od13, .func (PySem.W.fnOf "names" "Sheet.names" (defArgs (inClass (top 33) 11)) (defBody (inClass (top 33) 11)) (defScope (inClass (top 33) 11)) .none kV13 doc13 pm13 an13 cd13 ct13), sl13⟩) (c13 : PySem.W.codeIn K cd13 "Sheet.names" = true) (k13 : PySem.W.keepIn K (.ref f13) = true)
    {f14 : Addr} {oc14 kV14 doc14 pm14 cd14 ct14 : Value} {od14 an14 : Option Addr} {sl14 : Array (Option Value)} (a14 : PySem.W.nsIn K mainGlobals "_law_well" = some (some (.ref f14))) (l14 : K.lookup f14 = some ⟨oc14, od14, .func (PySem.W.fnOf "_law_well" "_law_well" (defArgs (top 35)) (defBody (top 35)) (defScope (top 35)) .none kV14 doc14 pm14 an14 cd14 ct14), sl14⟩) (c14 : PySem.W.codeIn K cd14 "_law_well" = true) (k14 : PySem.W.keepIn K (.ref f14) = true)
    {f15 : Addr} {oc15 kV15 doc15 pm15 cd15 ct15 : Value} {od15 an15 : Option Addr} {sl15 : Array (Option Value)} (a15 : PySem.W.nsIn K mainGlobals "_law_same" = some (some (.ref f15))) (l15 : K.lookup f15 = some ⟨oc15, od15, .func (PySem.W.fnOf "_law_same" "_law_same" (defArgs (top 42)) (defBody (top 42)) (defScope (top 42)) .none kV15 doc15 pm15 an15 cd15 ct15), sl15⟩) (c15 : PySem.W.codeIn K cd15 "_law_same" = true) (k15 : PySem.W.keepIn K (.ref f15) = true)
    {f16 : Addr} {oc16 kV16 doc16 pm16 cd16 ct16 : Value} {od16 an16 : Option Addr} {sl16 : Array (Option Value)} (a16 : PySem.W.nsIn K mainGlobals "_law_draw" = some (some (.ref f16))) (l16 : K.lookup f16 = some ⟨oc16, od16, .func (PySem.W.fnOf "_law_draw" "_law_draw" (defArgs (top 36)) (defBody (top 36)) (defScope (top 36)) .none kV16 doc16 pm16 an16 cd16 ct16), sl16⟩) (c16 : PySem.W.codeIn K cd16 "_law_draw" = true) (k16 : PySem.W.keepIn K (.ref f16) = true)
    {f17 : Addr} {oc17 kV17 doc17 pm17 cd17 ct17 : Value} {od17 an17 : Option Addr} {sl17 : Array (Option Value)} (a17 : PySem.W.nsIn K mainGlobals "_law_names" = some (some (.ref f17))) (l17 : K.lookup f17 = some ⟨oc17, od17, .func (PySem.W.fnOf "_law_names" "_law_names" (defArgs (top 37)) (defBody (top 37)) (defScope (top 37)) .none kV17 doc17 pm17 an17 cd17 ct17), sl17⟩) (c17 : PySem.W.codeIn K cd17 "_law_names" = true) (k17 : PySem.W.keepIn K (.ref f17) = true)
    {f18 : Addr} {oc18 kV18 doc18 pm18 cd18 ct18 : Value} {od18 an18 : Option Addr} {sl18 : Array (Option Value)} (a18 : PySem.W.nsIn K mainGlobals "_law_number" = some (some (.ref f18))) (l18 : K.lookup f18 = some ⟨oc18, od18, .func (PySem.W.fnOf "_law_number" "_law_number" (defArgs (top 38)) (defBody (top 38)) (defScope (top 38)) .none kV18 doc18 pm18 an18 cd18 ct18), sl18⟩) (c18 : PySem.W.codeIn K cd18 "_law_number" = true) (k18 : PySem.W.keepIn K (.ref f18) = true)
    {f19 : Addr} {oc19 kV19 doc19 pm19 cd19 ct19 : Value} {od19 an19 : Option Addr} {sl19 : Array (Option Value)} (a19 : PySem.W.nsIn K mainGlobals "_law_pool" = some (some (.ref f19))) (l19 : K.lookup f19 = some ⟨oc19, od19, .func (PySem.W.fnOf "_law_pool" "_law_pool" (defArgs (top 39)) (defBody (top 39)) (defScope (top 39)) .none kV19 doc19 pm19 an19 cd19 ct19), sl19⟩) (c19 : PySem.W.codeIn K cd19 "_law_pool" = true) (k19 : PySem.W.keepIn K (.ref f19) = true)
    {f20 : Addr} {oc20 kV20 doc20 pm20 cd20 ct20 : Value} {od20 an20 : Option Addr} {sl20 : Array (Option Value)} (a20 : PySem.W.nsIn K mainGlobals "_law_tests" = some (some (.ref f20))) (l20 : K.lookup f20 = some ⟨oc20, od20, .func (PySem.W.fnOf "_law_tests" "_law_tests" (defArgs (top 40)) (defBody (top 40)) (defScope (top 40)) .none kV20 doc20 pm20 an20 cd20 ct20), sl20⟩) (c20 : PySem.W.codeIn K cd20 "_law_tests" = true) (k20 : PySem.W.keepIn K (.ref f20) = true)
    {f21 : Addr} {oc21 kV21 doc21 pm21 cd21 ct21 : Value} {od21 an21 : Option Addr} {sl21 : Array (Option Value)} (a21 : PySem.W.nsIn K mainGlobals "_law_shown" = some (some (.ref f21))) (l21 : K.lookup f21 = some ⟨oc21, od21, .func (PySem.W.fnOf "_law_shown" "_law_shown" (defArgs (top 41)) (defBody (top 41)) (defScope (top 41)) .none kV21 doc21 pm21 an21 cd21 ct21), sl21⟩) (c21 : PySem.W.codeIn K cd21 "_law_shown" = true) (k21 : PySem.W.keepIn K (.ref f21) = true)
    {f22 : Addr} {oc22 kV22 doc22 pm22 cd22 ct22 : Value} {od22 an22 : Option Addr} {sl22 : Array (Option Value)} (a22 : PySem.W.nsIn K mainGlobals "_law_wrong_shown" = some (some (.ref f22))) (l22 : K.lookup f22 = some ⟨oc22, od22, .func (PySem.W.fnOf "_law_wrong_shown" "_law_wrong_shown" (defArgs (top 43)) (defBody (top 43)) (defScope (top 43)) .none kV22 doc22 pm22 an22 cd22 ct22), sl22⟩) (c22 : PySem.W.codeIn K cd22 "_law_wrong_shown" = true) (k22 : PySem.W.keepIn K (.ref f22) = true)
    {f23 : Addr} {oc23 kV23 doc23 pm23 cd23 ct23 : Value} {od23 an23 : Option Addr} {sl23 : Array (Option Value)} (a23 : PySem.W.nsIn K mainGlobals "_law_wrong_tests" = some (some (.ref f23))) (l23 : K.lookup f23 = some ⟨oc23, od23, .func (PySem.W.fnOf "_law_wrong_tests" "_law_wrong_tests" (defArgs (top 44)) (defBody (top 44)) (defScope (top 44)) .none kV23 doc23 pm23 an23 cd23 ct23), sl23⟩) (c23 : PySem.W.codeIn K cd23 "_law_wrong_tests" = true) (k23 : PySem.W.keepIn K (.ref f23) = true)
    {f24 : Addr} {oc24 kV24 doc24 pm24 cd24 ct24 : Value} {od24 an24 : Option Addr} {sl24 : Array (Option Value)} (a24 : PySem.W.nsIn K mainGlobals "_law_refused" = some (some (.ref f24))) (l24 : K.lookup f24 = some ⟨oc24, od24, .func (PySem.W.fnOf "_law_refused" "_law_refused" (defArgs (top 45)) (defBody (top 45)) (defScope (top 45)) .none kV24 doc24 pm24 an24 cd24 ct24), sl24⟩) (c24 : PySem.W.codeIn K cd24 "_law_refused" = true) (k24 : PySem.W.keepIn K (.ref f24) = true)
    {f25 : Addr} {oc25 kV25 doc25 pm25 cd25 ct25 : Value} {od25 an25 : Option Addr} {sl25 : Array (Option Value)} (a25 : PySem.W.findIn K (.ref oa8) "parts" = some (some (.ref f25))) (i25 : PySem.W.isFn K (.ref f25) = true) (j25 : PySem.W.fnIn K f25 = true) (l25 : K.lookup f25 = some ⟨oc25, od25, .func (PySem.W.fnOf "parts" "Sending.parts" (defArgs (inClass (top 32) 2)) (defBody (inClass (top 32) 2)) (defScope (inClass (top 32) 2)) .none kV25 doc25 pm25 an25 cd25 ct25), sl25⟩) (c25 : PySem.W.codeIn K cd25 "Sending.parts" = true) (k25 : PySem.W.keepIn K (.ref f25) = true)
    {f26 : Addr} {oc26 kV26 doc26 pm26 cd26 ct26 : Value} {od26 an26 : Option Addr} {sl26 : Array (Option Value)} (a26 : PySem.W.findIn K (.ref oa8) "__eq__" = some (some (.ref f26))) (i26 : PySem.W.isFn K (.ref f26) = true) (j26 : PySem.W.fnIn K f26 = true) (l26 : K.lookup f26 = some ⟨oc26, od26, .func (PySem.W.fnOf "__eq__" "Sending.__eq__" (defArgs (inClass (top 32) 8)) (defBody (inClass (top 32) 8)) (defScope (inClass (top 32) 8)) .none kV26 doc26 pm26 an26 cd26 ct26), sl26⟩) (c26 : PySem.W.codeIn K cd26 "Sending.__eq__" = true) (k26 : PySem.W.keepIn K (.ref f26) = true)
    {f27 : Addr} {oc27 kV27 doc27 pm27 cd27 ct27 : Value} {od27 an27 : Option Addr} {sl27 : Array (Option Value)} (a27 : PySem.W.findIn K (.ref oa9) "__eq__" = some (some (.ref f27))) (i27 : PySem.W.isFn K (.ref f27) = true) (j27 : PySem.W.fnIn K f27 = true) (l27 : K.lookup f27 = some ⟨oc27, od27, .func (PySem.W.fnOf "__eq__" "Sheet.__eq__" (defArgs (inClass (top 33) 14)) (defBody (inClass (top 33) 14)) (defScope (inClass (top 33) 14)) .none kV27 doc27 pm27 an27 cd27 ct27), sl27⟩) (c27 : PySem.W.codeIn K cd27 "Sheet.__eq__" = true) (k27 : PySem.W.keepIn K (.ref f27) = true)
    {f28 : Addr} {oc28 kV28 doc28 pm28 cd28 ct28 : Value} {od28 an28 : Option Addr} {sl28 : Array (Option Value)} (a28 : PySem.W.nsIn K mainGlobals "_law_good_right" = some (some (.ref f28))) (l28 : K.lookup f28 = some ⟨oc28, od28, .func (PySem.W.fnOf "_law_good_right" "_law_good_right" (defArgs (top 46)) (defBody (top 46)) (defScope (top 46)) .none kV28 doc28 pm28 an28 cd28 ct28), sl28⟩) (c28 : PySem.W.codeIn K cd28 "_law_good_right" = true) (k28 : PySem.W.keepIn K (.ref f28) = true)
    {f29 : Addr} {oc29 kV29 doc29 pm29 cd29 ct29 : Value} {od29 an29 : Option Addr} {sl29 : Array (Option Value)} (a29 : PySem.W.nsIn K mainGlobals "_law_right" = some (some (.ref f29))) (l29 : K.lookup f29 = some ⟨oc29, od29, .func (PySem.W.fnOf "_law_right" "_law_right" (defArgs (top 47)) (defBody (top 47)) (defScope (top 47)) .none kV29 doc29 pm29 an29 cd29 ct29), sl29⟩) (c29 : PySem.W.codeIn K cd29 "_law_right" = true) (k29 : PySem.W.keepIn K (.ref f29) = true)
    {f30 : Addr} {oc30 kV30 doc30 pm30 cd30 ct30 : Value} {od30 an30 : Option Addr} {sl30 : Array (Option Value)} (a30 : PySem.W.nsIn K mainGlobals "law" = some (some (.ref f30))) (l30 : K.lookup f30 = some ⟨oc30, od30, .func (PySem.W.fnOf "law" "law" (defArgs (top 48)) (defBody (top 48)) (defScope (top 48)) .none kV30 doc30 pm30 an30 cd30 ct30), sl30⟩) (c30 : PySem.W.codeIn K cd30 "law" = true) (k30 : PySem.W.keepIn K (.ref f30) = true)
    (xsp : PySem.W.specialIn K (.builtin "object.__class__") "__get__" = some (some (.builtin "getset_descriptor.__get__")))
    (xtk : PySem.W.takesIn K (.builtin "object.__class__") = some true)
    {xa0 : Addr}
    (xn0 : PySem.W.nsIn K mainGlobals "SheetError" = some (some (.ref xa0)))
    (xs0 : PySem.W.subIn K (.ref xa0) (.type "BaseException") = some true)
    (xt0 : PySem.W.typeIn K (.ref xa0) = some (.type "type"))
    (xk0 : PySem.W.keepIn K (.ref xa0) = true)
    (xc0 : PySem.W.isClsIn K xa0 = true)
    (xh0 : PySem.W.hasDictIn K xa0 = true)
    (xg0 : PySem.W.findIn K (.ref xa0) "__getattribute__" = some (some (.builtin "BaseException.__getattribute__")))
    (xr0 : PySem.W.findIn K (.ref xa0) "__getattr__" = some none)
    (xl0 : PySem.W.findIn K (.ref xa0) "__class__" = some (some (.builtin "object.__class__")))
    (xm0 : PySem.W.mroIn K xa0 (.type "object") = some true)
    {xa1 : Addr}
    (xn1 : PySem.W.nsIn K mainGlobals "NoColumns" = some (some (.ref xa1)))
    (xs1 : PySem.W.subIn K (.ref xa1) (.type "BaseException") = some true)
    (xt1 : PySem.W.typeIn K (.ref xa1) = some (.type "type"))
    (xk1 : PySem.W.keepIn K (.ref xa1) = true)
    (xc1 : PySem.W.isClsIn K xa1 = true)
    (xh1 : PySem.W.hasDictIn K xa1 = true)
    (xg1 : PySem.W.findIn K (.ref xa1) "__getattribute__" = some (some (.builtin "BaseException.__getattribute__")))
    (xr1 : PySem.W.findIn K (.ref xa1) "__getattr__" = some none)
    (xl1 : PySem.W.findIn K (.ref xa1) "__class__" = some (some (.builtin "object.__class__")))
    (xm1 : PySem.W.mroIn K xa1 (.type "object") = some true)
    {xa2 : Addr}
    (xn2 : PySem.W.nsIn K mainGlobals "NoSending" = some (some (.ref xa2)))
    (xs2 : PySem.W.subIn K (.ref xa2) (.type "BaseException") = some true)
    (xt2 : PySem.W.typeIn K (.ref xa2) = some (.type "type"))
    (xk2 : PySem.W.keepIn K (.ref xa2) = true)
    (xc2 : PySem.W.isClsIn K xa2 = true)
    (xh2 : PySem.W.hasDictIn K xa2 = true)
    (xg2 : PySem.W.findIn K (.ref xa2) "__getattribute__" = some (some (.builtin "BaseException.__getattribute__")))
    (xr2 : PySem.W.findIn K (.ref xa2) "__getattr__" = some none)
    (xl2 : PySem.W.findIn K (.ref xa2) "__class__" = some (some (.builtin "object.__class__")))
    (xm2 : PySem.W.mroIn K xa2 (.type "object") = some true)
    {xa3 : Addr}
    (xn3 : PySem.W.nsIn K mainGlobals "NoJoining" = some (some (.ref xa3)))
    (xs3 : PySem.W.subIn K (.ref xa3) (.type "BaseException") = some true)
    (xt3 : PySem.W.typeIn K (.ref xa3) = some (.type "type"))
    (xk3 : PySem.W.keepIn K (.ref xa3) = true)
    (xc3 : PySem.W.isClsIn K xa3 = true)
    (xh3 : PySem.W.hasDictIn K xa3 = true)
    (xg3 : PySem.W.findIn K (.ref xa3) "__getattribute__" = some (some (.builtin "BaseException.__getattribute__")))
    (xr3 : PySem.W.findIn K (.ref xa3) "__getattr__" = some none)
    (xl3 : PySem.W.findIn K (.ref xa3) "__class__" = some (some (.builtin "object.__class__")))
    (xm3 : PySem.W.mroIn K xa3 (.type "object") = some true)
    {xa4 : Addr}
    (xn4 : PySem.W.nsIn K mainGlobals "NoMeanwhile" = some (some (.ref xa4)))
    (xs4 : PySem.W.subIn K (.ref xa4) (.type "BaseException") = some true)
    (xt4 : PySem.W.typeIn K (.ref xa4) = some (.type "type"))
    (xk4 : PySem.W.keepIn K (.ref xa4) = true)
    (xc4 : PySem.W.isClsIn K xa4 = true)
    (xh4 : PySem.W.hasDictIn K xa4 = true)
    (xg4 : PySem.W.findIn K (.ref xa4) "__getattribute__" = some (some (.builtin "BaseException.__getattribute__")))
    (xr4 : PySem.W.findIn K (.ref xa4) "__getattr__" = some none)
    (xl4 : PySem.W.findIn K (.ref xa4) "__class__" = some (some (.builtin "object.__class__")))
    (xm4 : PySem.W.mroIn K xa4 (.type "object") = some true)
    {xa5 : Addr}
    (xn5 : PySem.W.nsIn K mainGlobals "NoLine" = some (some (.ref xa5)))
    (xs5 : PySem.W.subIn K (.ref xa5) (.type "BaseException") = some true)
    (xt5 : PySem.W.typeIn K (.ref xa5) = some (.type "type"))
    (xk5 : PySem.W.keepIn K (.ref xa5) = true)
    (xc5 : PySem.W.isClsIn K xa5 = true)
    (xh5 : PySem.W.hasDictIn K xa5 = true)
    (xg5 : PySem.W.findIn K (.ref xa5) "__getattribute__" = some (some (.builtin "BaseException.__getattribute__")))
    (xr5 : PySem.W.findIn K (.ref xa5) "__getattr__" = some none)
    (xl5 : PySem.W.findIn K (.ref xa5) "__class__" = some (some (.builtin "object.__class__")))
    (xm5 : PySem.W.mroIn K xa5 (.type "object") = some true)
    {xa6 : Addr}
    (xn6 : PySem.W.nsIn K mainGlobals "NoCells" = some (some (.ref xa6)))
    (xs6 : PySem.W.subIn K (.ref xa6) (.type "BaseException") = some true)
    (xt6 : PySem.W.typeIn K (.ref xa6) = some (.type "type"))
    (xk6 : PySem.W.keepIn K (.ref xa6) = true)
    (xc6 : PySem.W.isClsIn K xa6 = true)
    (xh6 : PySem.W.hasDictIn K xa6 = true)
    (xg6 : PySem.W.findIn K (.ref xa6) "__getattribute__" = some (some (.builtin "BaseException.__getattribute__")))
    (xr6 : PySem.W.findIn K (.ref xa6) "__getattr__" = some none)
    (xl6 : PySem.W.findIn K (.ref xa6) "__class__" = some (some (.builtin "object.__class__")))
    (xm6 : PySem.W.mroIn K xa6 (.type "object") = some true)
    {xa7 : Addr}
    (xn7 : PySem.W.nsIn K mainGlobals "NoText" = some (some (.ref xa7)))
    (xs7 : PySem.W.subIn K (.ref xa7) (.type "BaseException") = some true)
    (xt7 : PySem.W.typeIn K (.ref xa7) = some (.type "type"))
    (xk7 : PySem.W.keepIn K (.ref xa7) = true)
    (xc7 : PySem.W.isClsIn K xa7 = true)
    (xh7 : PySem.W.hasDictIn K xa7 = true)
    (xg7 : PySem.W.findIn K (.ref xa7) "__getattribute__" = some (some (.builtin "BaseException.__getattribute__")))
    (xr7 : PySem.W.findIn K (.ref xa7) "__getattr__" = some none)
    (xl7 : PySem.W.findIn K (.ref xa7) "__class__" = some (some (.builtin "object.__class__")))
    (xm7 : PySem.W.mroIn K xa7 (.type "object") = some true)
    {nm2 q2 : Str} {N2 : Addr} {bs2 bm2 : List Value} {sn2 : List Str} {sb2 : List Value} {ab2 : Bool} {cl2 : Option Bool} {dd2 : Option Addr} {ma2 mb2 mc2 md2 me2 : Option Value}
    (xo2 : K.lookup xa2 = some (excClassObj nm2 q2 xa2 N2 bs2 bm2 true sn2 sb2 ab2 cl2 dd2 ma2 mb2 mc2 md2 me2 "ValueError.__new__"))
    (xv2 : PySem.HandSPX.refsVE bm2 = true)
    (xd2 : PySem.W.findIn K (.ref xa2) "__setattr__" = some (some (.builtin "object.__setattr__")))
    (xf2_part : PySem.W.findIn K (.ref xa2) "part" = some none)
    {fi2 : Addr} {io2 iv2 ic2 ip2 ie2 it2 : Value} {iq2 iw2 : Option Addr} {iz2 : Array (Option Value)}
    (ya2 : PySem.W.findIn K (.ref xa2) "__init__" = some (some (.ref fi2)))
    (yt2 : PySem.W.typeIn K (.ref fi2) = some (.type "function"))
    (yl2 : K.lookup fi2 = some ⟨io2, iq2, .func (PySem.W.fnOf "__init__" "NoSending.__init__" (defArgs (inClass (top 4) 0)) (defBody (inClass (top 4) 0)) (defScope (inClass (top 4) 0)) .none iv2 ic2 ip2 iw2 ie2 it2), iz2⟩)
    (yc2 : PySem.W.codeIn K ie2 "NoSending.__init__" = true)
    (yk2 : PySem.W.keepIn K (.ref fi2) = true)
    {nm3 q3 : Str} {N3 : Addr} {bs3 bm3 : List Value} {sn3 : List Str} {sb3 : List Value} {ab3 : Bool} {cl3 : Option Bool} {dd3 : Option Addr} {ma3 mb3 mc3 md3 me3 : Option Value}
    (xo3 : K.lookup xa3 = some (excClassObj nm3 q3 xa3 N3 bs3 bm3 true sn3 sb3 ab3 cl3 dd3 ma3 mb3 mc3 md3 me3 "ValueError.__new__"))
    (xv3 : PySem.HandSPX.refsVE bm3 = true)
    (xd3 : PySem.W.findIn K (.ref xa3) "__setattr__" = some (some (.builtin "object.__setattr__")))
    (xf3_part : PySem.W.findIn K (.ref xa3) "part" = some none)
    {fi3 : Addr} {io3 iv3 ic3 ip3 ie3 it3 : Value} {iq3 iw3 : Option Addr} {iz3 : Array (Option Value)}
    (ya3 : PySem.W.findIn K (.ref xa3) "__init__" = some (some (.ref fi3)))
    (yt3 : PySem.W.typeIn K (.ref fi3) = some (.type "function"))
    (yl3 : K.lookup fi3 = some ⟨io3, iq3, .func (PySem.W.fnOf "__init__" "NoJoining.__init__" (defArgs (inClass (top 5) 0)) (defBody (inClass (top 5) 0)) (defScope (inClass (top 5) 0)) .none iv3 ic3 ip3 iw3 ie3 it3), iz3⟩)
    (yc3 : PySem.W.codeIn K ie3 "NoJoining.__init__" = true)
    (yk3 : PySem.W.keepIn K (.ref fi3) = true)
    {nm4 q4 : Str} {N4 : Addr} {bs4 bm4 : List Value} {sn4 : List Str} {sb4 : List Value} {ab4 : Bool} {cl4 : Option Bool} {dd4 : Option Addr} {ma4 mb4 mc4 md4 me4 : Option Value}
    (xo4 : K.lookup xa4 = some (excClassObj nm4 q4 xa4 N4 bs4 bm4 true sn4 sb4 ab4 cl4 dd4 ma4 mb4 mc4 md4 me4 "ValueError.__new__"))
    (xv4 : PySem.HandSPX.refsVE bm4 = true)
    (xd4 : PySem.W.findIn K (.ref xa4) "__setattr__" = some (some (.builtin "object.__setattr__")))
    (xf4_part : PySem.W.findIn K (.ref xa4) "part" = some none)
    {fi4 : Addr} {io4 iv4 ic4 ip4 ie4 it4 : Value} {iq4 iw4 : Option Addr} {iz4 : Array (Option Value)}
    (ya4 : PySem.W.findIn K (.ref xa4) "__init__" = some (some (.ref fi4)))
    (yt4 : PySem.W.typeIn K (.ref fi4) = some (.type "function"))
    (yl4 : K.lookup fi4 = some ⟨io4, iq4, .func (PySem.W.fnOf "__init__" "NoMeanwhile.__init__" (defArgs (inClass (top 6) 0)) (defBody (inClass (top 6) 0)) (defScope (inClass (top 6) 0)) .none iv4 ic4 ip4 iw4 ie4 it4), iz4⟩)
    (yc4 : PySem.W.codeIn K ie4 "NoMeanwhile.__init__" = true)
    (yk4 : PySem.W.keepIn K (.ref fi4) = true)
    {nm5 q5 : Str} {N5 : Addr} {bs5 bm5 : List Value} {sn5 : List Str} {sb5 : List Value} {ab5 : Bool} {cl5 : Option Bool} {dd5 : Option Addr} {ma5 mb5 mc5 md5 me5 : Option Value}
    (xo5 : K.lookup xa5 = some (excClassObj nm5 q5 xa5 N5 bs5 bm5 true sn5 sb5 ab5 cl5 dd5 ma5 mb5 mc5 md5 me5 "ValueError.__new__"))
    (xv5 : PySem.HandSPX.refsVE bm5 = true)
    (xd5 : PySem.W.findIn K (.ref xa5) "__setattr__" = some (some (.builtin "object.__setattr__")))
    (xf5_index : PySem.W.findIn K (.ref xa5) "index" = some none)
    {fi5 : Addr} {io5 iv5 ic5 ip5 ie5 it5 : Value} {iq5 iw5 : Option Addr} {iz5 : Array (Option Value)}
    (ya5 : PySem.W.findIn K (.ref xa5) "__init__" = some (some (.ref fi5)))
    (yt5 : PySem.W.typeIn K (.ref fi5) = some (.type "function"))
    (yl5 : K.lookup fi5 = some ⟨io5, iq5, .func (PySem.W.fnOf "__init__" "NoLine.__init__" (defArgs (inClass (top 7) 0)) (defBody (inClass (top 7) 0)) (defScope (inClass (top 7) 0)) .none iv5 ic5 ip5 iw5 ie5 it5), iz5⟩)
    (yc5 : PySem.W.codeIn K ie5 "NoLine.__init__" = true)
    (yk5 : PySem.W.keepIn K (.ref fi5) = true)
    {nm6 q6 : Str} {N6 : Addr} {bs6 bm6 : List Value} {sn6 : List Str} {sb6 : List Value} {ab6 : Bool} {cl6 : Option Bool} {dd6 : Option Addr} {ma6 mb6 mc6 md6 me6 : Option Value}
    (xo6 : K.lookup xa6 = some (excClassObj nm6 q6 xa6 N6 bs6 bm6 true sn6 sb6 ab6 cl6 dd6 ma6 mb6 mc6 md6 me6 "ValueError.__new__"))
    (xv6 : PySem.HandSPX.refsVE bm6 = true)
    (xd6 : PySem.W.findIn K (.ref xa6) "__setattr__" = some (some (.builtin "object.__setattr__")))
    (xf6_index : PySem.W.findIn K (.ref xa6) "index" = some none)
    {fi6 : Addr} {io6 iv6 ic6 ip6 ie6 it6 : Value} {iq6 iw6 : Option Addr} {iz6 : Array (Option Value)}
    (ya6 : PySem.W.findIn K (.ref xa6) "__init__" = some (some (.ref fi6)))
    (yt6 : PySem.W.typeIn K (.ref fi6) = some (.type "function"))
    (yl6 : K.lookup fi6 = some ⟨io6, iq6, .func (PySem.W.fnOf "__init__" "NoCells.__init__" (defArgs (inClass (top 8) 0)) (defBody (inClass (top 8) 0)) (defScope (inClass (top 8) 0)) .none iv6 ic6 ip6 iw6 ie6 it6), iz6⟩)
    (yc6 : PySem.W.codeIn K ie6 "NoCells.__init__" = true)
    (yk6 : PySem.W.keepIn K (.ref fi6) = true)
    {nm7 q7 : Str} {N7 : Addr} {bs7 bm7 : List Value} {sn7 : List Str} {sb7 : List Value} {ab7 : Bool} {cl7 : Option Bool} {dd7 : Option Addr} {ma7 mb7 mc7 md7 me7 : Option Value}
    (xo7 : K.lookup xa7 = some (excClassObj nm7 q7 xa7 N7 bs7 bm7 true sn7 sb7 ab7 cl7 dd7 ma7 mb7 mc7 md7 me7 "ValueError.__new__"))
    (xv7 : PySem.HandSPX.refsVE bm7 = true)
    (xd7 : PySem.W.findIn K (.ref xa7) "__setattr__" = some (some (.builtin "object.__setattr__")))
    (xf7_part : PySem.W.findIn K (.ref xa7) "part" = some none)
    {fi7 : Addr} {io7 iv7 ic7 ip7 ie7 it7 : Value} {iq7 iw7 : Option Addr} {iz7 : Array (Option Value)}
    (ya7 : PySem.W.findIn K (.ref xa7) "__init__" = some (some (.ref fi7)))
    (yt7 : PySem.W.typeIn K (.ref fi7) = some (.type "function"))
    (yl7 : K.lookup fi7 = some ⟨io7, iq7, .func (PySem.W.fnOf "__init__" "NoText.__init__" (defArgs (inClass (top 9) 0)) (defBody (inClass (top 9) 0)) (defScope (inClass (top 9) 0)) .none iv7 ic7 ip7 iw7 ie7 it7), iz7⟩)
    (yc7 : PySem.W.codeIn K ie7 "NoText.__init__" = true)
    (yk7 : PySem.W.keepIn K (.ref fi7) = true)
    (xj0_1 : PySem.W.subIn K (.ref xa0) (.ref xa1) = some false)
    (xj1_1 : PySem.W.subIn K (.ref xa1) (.ref xa1) = some true)
    (xj2_1 : PySem.W.subIn K (.ref xa2) (.ref xa1) = some false)
    (xj3_1 : PySem.W.subIn K (.ref xa3) (.ref xa1) = some false)
    (xj4_1 : PySem.W.subIn K (.ref xa4) (.ref xa1) = some false)
    (xj5_1 : PySem.W.subIn K (.ref xa5) (.ref xa1) = some false)
    (xj6_1 : PySem.W.subIn K (.ref xa6) (.ref xa1) = some false)
    (xj7_1 : PySem.W.subIn K (.ref xa7) (.ref xa1) = some false)
    (xj0_3 : PySem.W.subIn K (.ref xa0) (.ref xa3) = some false)
    (xj1_3 : PySem.W.subIn K (.ref xa1) (.ref xa3) = some false)
    (xj2_3 : PySem.W.subIn K (.ref xa2) (.ref xa3) = some false)
    (xj3_3 : PySem.W.subIn K (.ref xa3) (.ref xa3) = some true)
    (xj4_3 : PySem.W.subIn K (.ref xa4) (.ref xa3) = some false)
    (xj5_3 : PySem.W.subIn K (.ref xa5) (.ref xa3) = some false)
    (xj6_3 : PySem.W.subIn K (.ref xa6) (.ref xa3) = some false)
    (xj7_3 : PySem.W.subIn K (.ref xa7) (.ref xa3) = some false)
    (xj0_4 : PySem.W.subIn K (.ref xa0) (.ref xa4) = some false)
    (xj1_4 : PySem.W.subIn K (.ref xa1) (.ref xa4) = some false)
    (xj2_4 : PySem.W.subIn K (.ref xa2) (.ref xa4) = some false)
    (xj3_4 : PySem.W.subIn K (.ref xa3) (.ref xa4) = some false)
    (xj4_4 : PySem.W.subIn K (.ref xa4) (.ref xa4) = some true)
    (xj5_4 : PySem.W.subIn K (.ref xa5) (.ref xa4) = some false)
    (xj6_4 : PySem.W.subIn K (.ref xa6) (.ref xa4) = some false)
    (xj7_4 : PySem.W.subIn K (.ref xa7) (.ref xa4) = some false)
    (xj0_2 : PySem.W.subIn K (.ref xa0) (.ref xa2) = some false)
    (xj1_2 : PySem.W.subIn K (.ref xa1) (.ref xa2) = some false)
    (xj2_2 : PySem.W.subIn K (.ref xa2) (.ref xa2) = some true)
    (xj3_2 : PySem.W.subIn K (.ref xa3) (.ref xa2) = some false)
    (xj4_2 : PySem.W.subIn K (.ref xa4) (.ref xa2) = some false)
    (xj5_2 : PySem.W.subIn K (.ref xa5) (.ref xa2) = some false)
    (xj6_2 : PySem.W.subIn K (.ref xa6) (.ref xa2) = some false)
    (xj7_2 : PySem.W.subIn K (.ref xa7) (.ref xa2) = some false)
    (xj0_7 : PySem.W.subIn K (.ref xa0) (.ref xa7) = some false)
    (xj1_7 : PySem.W.subIn K (.ref xa1) (.ref xa7) = some false)
    (xj2_7 : PySem.W.subIn K (.ref xa2) (.ref xa7) = some false)
    (xj3_7 : PySem.W.subIn K (.ref xa3) (.ref xa7) = some false)
    (xj4_7 : PySem.W.subIn K (.ref xa4) (.ref xa7) = some false)
    (xj5_7 : PySem.W.subIn K (.ref xa5) (.ref xa7) = some false)
    (xj6_7 : PySem.W.subIn K (.ref xa6) (.ref xa7) = some false)
    (xj7_7 : PySem.W.subIn K (.ref xa7) (.ref xa7) = some true)
    (xj0_0 : PySem.W.subIn K (.ref xa0) (.ref xa0) = some true)
    (xj1_0 : PySem.W.subIn K (.ref xa1) (.ref xa0) = some true)
    (xj2_0 : PySem.W.subIn K (.ref xa2) (.ref xa0) = some true)
    (xj3_0 : PySem.W.subIn K (.ref xa3) (.ref xa0) = some true)
    (xj4_0 : PySem.W.subIn K (.ref xa4) (.ref xa0) = some true)
    (xj5_0 : PySem.W.subIn K (.ref xa5) (.ref xa0) = some true)
    (xj6_0 : PySem.W.subIn K (.ref xa6) (.ref xa0) = some true)
    (xj7_0 : PySem.W.subIn K (.ref xa7) (.ref xa0) = some true)
    (xj0_ValueError : PySem.W.subIn K (.ref xa0) (.type "ValueError") = some true)
    (xj1_ValueError : PySem.W.subIn K (.ref xa1) (.type "ValueError") = some true)
    (xj2_ValueError : PySem.W.subIn K (.ref xa2) (.type "ValueError") = some true)
    (xj3_ValueError : PySem.W.subIn K (.ref xa3) (.type "ValueError") = some true)
    (xj4_ValueError : PySem.W.subIn K (.ref xa4) (.type "ValueError") = some true)
    (xj5_ValueError : PySem.W.subIn K (.ref xa5) (.type "ValueError") = some true)
    (xj6_ValueError : PySem.W.subIn K (.ref xa6) (.type "ValueError") = some true)
    (xj7_ValueError : PySem.W.subIn K (.ref xa7) (.type "ValueError") = some true)
    (pg8 : PySem.W.plainGet K oa8 Str.empty = true)
    (ph8 : PySem.W.hasDictIn K oa8 = true)
    (po8 : PySem.W.plainOver K oa8 = true)
    (ps8 : PySem.W.findIn K (.ref oa8) "__setattr__" = some (some (.builtin "object.__setattr__")))
    (pc8 : PySem.W.findIn K (.ref oa8) "__class__" = some (some (.builtin "object.__class__")))
    (pm_8 : PySem.W.mroIn K oa8 (.type "object") = some true)
    (pt8 : PySem.W.typeIn K (.ref oa8) = some (.type "type"))
    (pi8 : PySem.W.isClsIn K oa8 = true)
    (pa8 : PySem.W.makesIn K oa8 = true)
    (pk8 : PySem.W.keepIn K (.ref oa8) = true)
    (pn8 : PySem.W.noSeq K oa8 = true)
    (q8_9 : PySem.W.subIn K (.ref oa9) (.ref oa8) = some false)
    (r8_9 : (Value.ref oa9 == Value.ref oa8) = false)
    (pg9 : PySem.W.plainGet K oa9 Str.empty = true)
    (ph9 : PySem.W.hasDictIn K oa9 = true)
    (po9 : PySem.W.plainOver K oa9 = true)
    (ps9 : PySem.W.findIn K (.ref oa9) "__setattr__" = some (some (.builtin "object.__setattr__")))
    (pc9 : PySem.W.findIn K (.ref oa9) "__class__" = some (some (.builtin "object.__class__")))
    (pm_9 : PySem.W.mroIn K oa9 (.type "object") = some true)
    (pt9 : PySem.W.typeIn K (.ref oa9) = some (.type "type"))
    (pi9 : PySem.W.isClsIn K oa9 = true)
    (pa9 : PySem.W.makesIn K oa9 = true)
    (pk9 : PySem.W.keepIn K (.ref oa9) = true)
    (pn9 : PySem.W.noSeq K oa9 = true)
    (q9_8 : PySem.W.subIn K (.ref oa8) (.ref oa9) = some false)
    (r9_8 : (Value.ref oa8 == Value.ref oa9) = false)
    (nf9_body : PySem.W.findIn K (.ref oa9) "body" = some none)
    (nf9_heads : PySem.W.findIn K (.ref oa9) "heads" = some none)
    (nf8_once : PySem.W.findIn K (.ref oa8) "once" = some none)
    (nf8_shown : PySem.W.findIn K (.ref oa8) "shown" = some none)
    (nf8_tests : PySem.W.findIn K (.ref oa8) "tests" = some none)
    (ne8 : PySem.W.findIn K (.ref oa8) "__ne__" = some (some (.builtin "object.__ne__")))
    (ne9 : PySem.W.findIn K (.ref oa9) "__ne__" = some (some (.builtin "object.__ne__"))) :
    ∃ fd : FuncData, (∀ (s : Shared) (u : Value), BindsTo s fd ⟨[u], []⟩ [("_law_script", u)]) ∧ ∀ base : Heap, K.In base → base.Ns mainGlobals mg → FnG P w K mg base (L2.CX P w) 10 fa fd ["_law_script"] (spLaw f_law) := by
  subst hlv
  have T : Txt K mg ⟨K, (fun k => ([xa0, xa1, xa2, xa3, xa4, xa5, xa6, xa7, oa8, oa9] : List Addr).getD k 0), (fun k => ([[], [], ["part"], ["part"], ["part"], ["index"], ["index"], ["part"], ["shown", "tests", "once"], ["heads", "body"]] : List (List Str)).getD k []), fun _ => .non⟩ := ⟨rfl,
    Tr.glob_lint LA (by first | exact List.mem_cons_self | simp),
    Tr.glob_kstr (by decide +kernel) KX GT g_KEY,
    Tr.glob_kstr (by decide +kernel) KX GT g_LETTERS,
    Tr.glob_lint LA (by first | exact List.mem_cons_self | simp),
    Tr.glob_kint KX GT g_MOST_SHOWN,
    PySem.W.mg_none_of KX GT b_ValueError,
    PySem.W.mg_none_of KX GT b_abs,
    PySem.W.mg_none_of KX GT b_all,
    PySem.W.mg_none_of KX GT b_bool,
    PySem.W.mg_none_of KX GT b_int,
    PySem.W.mg_none_of KX GT b_isinstance,
    PySem.W.mg_none_of KX GT b_len,
    PySem.W.mg_none_of KX GT b_list,
    PySem.W.mg_none_of KX GT b_max,
    PySem.W.mg_none_of KX GT b_min,
    PySem.W.mg_none_of KX GT b_range,
    PySem.W.mg_none_of KX GT b_set,
    PySem.W.mg_none_of KX GT b_str,
    PySem.W.mg_none_of KX GT b_tuple,
    Tr.mkDef KX GT a0 l0 c0 k0 (fun _ _ _ _ _ _ us hl => match us, hl with | [_], _ => rfl),
    Tr.mkDef KX GT a1 l1 c1 k1 (fun _ _ _ _ _ _ us hl => match us, hl with | [_], _ => rfl),
    Tr.mkDef KX GT a2 l2 c2 k2 (fun _ _ _ _ _ _ us hl => match us, hl with | [_], _ => rfl),
    Tr.mkDef KX GT a3 l3 c3 k3 (fun _ _ _ _ _ _ us hl => match us, hl with | [_], _ => rfl),
    Tr.mkDef KX GT a4 l4 c4 k4 (fun _ _ _ _ _ _ us hl => match us, hl with | [_], _ => rfl),
    Tr.mkDef KX GT a5 l5 c5 k5 (fun _ _ _ _ _ _ us hl => match us, hl with | [_], _ => rfl),
    Tr.mkDef KX GT a6 l6 c6 k6 (fun _ _ _ _ _ _ us hl => match us, hl with | [_], _ => rfl),
    Tr.mkDef KX GT a7 l7 c7 k7 (fun _ _ _ _ _ _ us hl => match us, hl with | [_], _ => rfl),
    Tr.mkDef KX GT a8 l8 c8 k8 (fun _ _ _ _ _ _ us hl => match us, hl with | [_], _ => rfl),
    Tr.mkDef KX GT a9 l9 c9 k9 (fun _ _ _ _ _ _ us hl => match us, hl with | [_], _ => rfl),
    Tr.mkDef KX GT a10 l10 c10 k10 (fun _ _ _ _ _ _ us hl => match us, hl with | [_], _ => rfl),
    Tr.mkMethD (c := ⟨K, (fun k => ([xa0, xa1, xa2, xa3, xa4, xa5, xa6, xa7, oa8, oa9] : List Addr).getD k 0), (fun k => ([[], [], ["part"], ["part"], ["part"], ["index"], ["index"], ["part"], ["shown", "tests", "once"], ["heads", "body"]] : List (List Str)).getD k []), fun _ => .non⟩) (k := 8) a11 i11 j11 l11 c11 k11 (Tr.dflV (dvs := [.ref te11_0, .bl false]) dl11 (.cons rfl (.cons rfl .nil)) (by simp)) (by simp) (Tr.dfok_cons (Tr.df_tup0 de11_0) (Tr.dfok_cons Tr.df_bl Tr.dfok_nil)),
    Tr.mkMeth (c := ⟨K, (fun k => ([xa0, xa1, xa2, xa3, xa4, xa5, xa6, xa7, oa8, oa9] : List Addr).getD k 0), (fun k => ([[], [], ["part"], ["part"], ["part"], ["index"], ["index"], ["part"], ["shown", "tests", "once"], ["heads", "body"]] : List (List Str)).getD k []), fun _ => .non⟩) (k := 8) (h := h) a12 i12 j12 l12 c12 k12 (fun _ _ _ _ _ _ us hl => match us, hl with | [_], _ => rfl),
    Tr.mkMeth (c := ⟨K, (fun k => ([xa0, xa1, xa2, xa3, xa4, xa5, xa6, xa7, oa8, oa9] : List Addr).getD k 0), (fun k => ([[], [], ["part"], ["part"], ["part"], ["index"], ["index"], ["part"], ["shown", "tests", "once"], ["heads", "body"]] : List (List Str)).getD k []), fun _ => .non⟩) (k := 9) (h := h) a13 i13 j13 l13 c13 k13 (fun _ _ _ _ _ _ us hl => match us, hl with | [_], _ => rfl),
    Tr.mkDef KX GT a14 l14 c14 k14 (fun _ _ _ _ _ _ us hl => match us, hl with | [_, _], _ => rfl),
    Tr.mkDef KX GT a15 l15 c15 k15 (fun _ _ _ _ _ _ us hl => match us, hl with | [_, _], _ => rfl),
    Tr.mkDef KX GT a16 l16 c16 k16 (fun _ _ _ _ _ _ us hl => match us, hl with | [_, _], _ => rfl),
    Tr.mkDef KX GT a17 l17 c17 k17 (fun _ _ _ _ _ _ us hl => match us, hl with | [_, _], _ => rfl),
    Tr.mkDef KX GT a18 l18 c18 k18 (fun _ _ _ _ _ _ us hl => match us, hl with | [_], _ => rfl),
    Tr.mkDef KX GT a19 l19 c19 k19 (fun _ _ _ _ _ _ us hl => match us, hl with | [_], _ => rfl),
    Tr.mkDef KX GT a20 l20 c20 k20 (fun _ _ _ _ _ _ us hl => match us, hl with | [_, _, _], _ => rfl),
    Tr.mkDef KX GT a21 l21 c21 k21 (fun _ _ _ _ _ _ us hl => match us, hl with | [_, _], _ => rfl),
    Tr.mkDef KX GT a22 l22 c22 k22 (fun _ _ _ _ _ _ us hl => match us, hl with | [_, _], _ => rfl),
    Tr.mkDef KX GT a23 l23 c23 k23 (fun _ _ _ _ _ _ us hl => match us, hl with | [_, _, _], _ => rfl),
    Tr.mkDef KX GT a24 l24 c24 k24 (fun _ _ _ _ _ _ us hl => match us, hl with | [_, _], _ => rfl),
    Tr.mkMeth (c := ⟨K, (fun k => ([xa0, xa1, xa2, xa3, xa4, xa5, xa6, xa7, oa8, oa9] : List Addr).getD k 0), (fun k => ([[], [], ["part"], ["part"], ["part"], ["index"], ["index"], ["part"], ["shown", "tests", "once"], ["heads", "body"]] : List (List Str)).getD k []), fun _ => .non⟩) (k := 8) (h := h) a25 i25 j25 l25 c25 k25 (fun _ _ _ _ _ _ us hl => match us, hl with | [_], _ => rfl),
    Tr.mkMeth (c := ⟨K, (fun k => ([xa0, xa1, xa2, xa3, xa4, xa5, xa6, xa7, oa8, oa9] : List Addr).getD k 0), (fun k => ([[], [], ["part"], ["part"], ["part"], ["index"], ["index"], ["part"], ["shown", "tests", "once"], ["heads", "body"]] : List (List Str)).getD k []), fun _ => .non⟩) (k := 8) (h := h) a26 i26 j26 l26 c26 k26 (fun _ _ _ _ _ _ us hl => match us, hl with | [_, _], _ => rfl),
    Tr.mkMeth (c := ⟨K, (fun k => ([xa0, xa1, xa2, xa3, xa4, xa5, xa6, xa7, oa8, oa9] : List Addr).getD k 0), (fun k => ([[], [], ["part"], ["part"], ["part"], ["index"], ["index"], ["part"], ["shown", "tests", "once"], ["heads", "body"]] : List (List Str)).getD k []), fun _ => .non⟩) (k := 9) (h := h) a27 i27 j27 l27 c27 k27 (fun _ _ _ _ _ _ us hl => match us, hl with | [_, _], _ => rfl),
    Tr.mkDef KX GT a28 l28 c28 k28 (fun _ _ _ _ _ _ us hl => match us, hl with | [_, _], _ => rfl),
    Tr.mkDef KX GT a29 l29 c29 k29 (fun _ _ _ _ _ _ us hl => match us, hl with | [_, _], _ => rfl),
    Tr.mkDef KX GT a30 l30 c30 k30 (fun _ _ _ _ _ _ us hl => match us, hl with | [_], _ => rfl),
    ⟨xsp, xtk⟩,
    ⟨PySem.W.mg_of KX GT xn0, xs0, xt0, xk0, xc0, xh0, xg0, xr0, xl0, xm0⟩,
    ⟨PySem.W.mg_of KX GT xn1, xs1, xt1, xk1, xc1, xh1, xg1, xr1, xl1, xm1⟩,
    ⟨PySem.W.mg_of KX GT xn2, xs2, xt2, xk2, xc2, xh2, xg2, xr2, xl2, xm2⟩,
    ⟨PySem.W.mg_of KX GT xn3, xs3, xt3, xk3, xc3, xh3, xg3, xr3, xl3, xm3⟩,
    ⟨PySem.W.mg_of KX GT xn4, xs4, xt4, xk4, xc4, xh4, xg4, xr4, xl4, xm4⟩,
    ⟨PySem.W.mg_of KX GT xn5, xs5, xt5, xk5, xc5, xh5, xg5, xr5, xl5, xm5⟩,
    ⟨PySem.W.mg_of KX GT xn6, xs6, xt6, xk6, xc6, xh6, xg6, xr6, xl6, xm6⟩,
    ⟨PySem.W.mg_of KX GT xn7, xs7, xt7, xk7, xc7, xh7, xg7, xr7, xl7, xm7⟩,
    (fun j hj => by
      match j, hj with
      | 0, _ => exact ⟨_, (⟨PySem.W.mg_of KX GT xn0, xs0, xt0, xk0, xc0, xh0, xg0, xr0, xl0, xm0⟩ : XT K mg ⟨K, (fun k => ([xa0, xa1, xa2, xa3, xa4, xa5, xa6, xa7, oa8, oa9] : List Addr).getD k 0), (fun k => ([[], [], ["part"], ["part"], ["part"], ["index"], ["index"], ["part"], ["shown", "tests", "once"], ["heads", "body"]] : List (List Str)).getD k []), fun _ => .non⟩ 0 "SheetError")⟩
      | 1, _ => exact ⟨_, (⟨PySem.W.mg_of KX GT xn1, xs1, xt1, xk1, xc1, xh1, xg1, xr1, xl1, xm1⟩ : XT K mg ⟨K, (fun k => ([xa0, xa1, xa2, xa3, xa4, xa5, xa6, xa7, oa8, oa9] : List Addr).getD k 0), (fun k => ([[], [], ["part"], ["part"], ["part"], ["index"], ["index"], ["part"], ["shown", "tests", "once"], ["heads", "body"]] : List (List Str)).getD k []), fun _ => .non⟩ 1 "NoColumns")⟩
      | 2, _ => exact ⟨_, (⟨PySem.W.mg_of KX GT xn2, xs2, xt2, xk2, xc2, xh2, xg2, xr2, xl2, xm2⟩ : XT K mg ⟨K, (fun k => ([xa0, xa1, xa2, xa3, xa4, xa5, xa6, xa7, oa8, oa9] : List Addr).getD k 0), (fun k => ([[], [], ["part"], ["part"], ["part"], ["index"], ["index"], ["part"], ["shown", "tests", "once"], ["heads", "body"]] : List (List Str)).getD k []), fun _ => .non⟩ 2 "NoSending")⟩
      | 3, _ => exact ⟨_, (⟨PySem.W.mg_of KX GT xn3, xs3, xt3, xk3, xc3, xh3, xg3, xr3, xl3, xm3⟩ : XT K mg ⟨K, (fun k => ([xa0, xa1, xa2, xa3, xa4, xa5, xa6, xa7, oa8, oa9] : List Addr).getD k 0), (fun k => ([[], [], ["part"], ["part"], ["part"], ["index"], ["index"], ["part"], ["shown", "tests", "once"], ["heads", "body"]] : List (List Str)).getD k []), fun _ => .non⟩ 3 "NoJoining")⟩
      | 4, _ => exact ⟨_, (⟨PySem.W.mg_of KX GT xn4, xs4, xt4, xk4, xc4, xh4, xg4, xr4, xl4, xm4⟩ : XT K mg ⟨K, (fun k => ([xa0, xa1, xa2, xa3, xa4, xa5, xa6, xa7, oa8, oa9] : List Addr).getD k 0), (fun k => ([[], [], ["part"], ["part"], ["part"], ["index"], ["index"], ["part"], ["shown", "tests", "once"], ["heads", "body"]] : List (List Str)).getD k []), fun _ => .non⟩ 4 "NoMeanwhile")⟩
      | 5, _ => exact ⟨_, (⟨PySem.W.mg_of KX GT xn5, xs5, xt5, xk5, xc5, xh5, xg5, xr5, xl5, xm5⟩ : XT K mg ⟨K, (fun k => ([xa0, xa1, xa2, xa3, xa4, xa5, xa6, xa7, oa8, oa9] : List Addr).getD k 0), (fun k => ([[], [], ["part"], ["part"], ["part"], ["index"], ["index"], ["part"], ["shown", "tests", "once"], ["heads", "body"]] : List (List Str)).getD k []), fun _ => .non⟩ 5 "NoLine")⟩
      | 6, _ => exact ⟨_, (⟨PySem.W.mg_of KX GT xn6, xs6, xt6, xk6, xc6, xh6, xg6, xr6, xl6, xm6⟩ : XT K mg ⟨K, (fun k => ([xa0, xa1, xa2, xa3, xa4, xa5, xa6, xa7, oa8, oa9] : List Addr).getD k 0), (fun k => ([[], [], ["part"], ["part"], ["part"], ["index"], ["index"], ["part"], ["shown", "tests", "once"], ["heads", "body"]] : List (List Str)).getD k []), fun _ => .non⟩ 6 "NoCells")⟩
      | 7, _ => exact ⟨_, (⟨PySem.W.mg_of KX GT xn7, xs7, xt7, xk7, xc7, xh7, xg7, xr7, xl7, xm7⟩ : XT K mg ⟨K, (fun k => ([xa0, xa1, xa2, xa3, xa4, xa5, xa6, xa7, oa8, oa9] : List Addr).getD k 0), (fun k => ([[], [], ["part"], ["part"], ["part"], ["index"], ["index"], ["part"], ["shown", "tests", "once"], ["heads", "body"]] : List (List Str)).getD k []), fun _ => .non⟩ 7 "NoText")⟩
      | z + 8, h => omega),
    rfl,
    ⟨⟨_, _, _, _, _, _, _, _, _, _, _, _, _, _, _, xo2, xv2⟩, xd2, xs2, xt2, xk2⟩,
    xf2_part,
    ⟨fi2, _, ya2, yt2, fun_mk yl2 yc2 yk2, (fun_mk (st := (inClass (top 4) 0)) yl2 yc2 yk2).binds fun _ _ _ _ _ _ us hl => match us, hl with | [_, _], _ => rfl⟩,
    rfl,
    ⟨⟨_, _, _, _, _, _, _, _, _, _, _, _, _, _, _, xo3, xv3⟩, xd3, xs3, xt3, xk3⟩,
    xf3_part,
    ⟨fi3, _, ya3, yt3, fun_mk yl3 yc3 yk3, (fun_mk (st := (inClass (top 5) 0)) yl3 yc3 yk3).binds fun _ _ _ _ _ _ us hl => match us, hl with | [_, _], _ => rfl⟩,
    rfl,
    ⟨⟨_, _, _, _, _, _, _, _, _, _, _, _, _, _, _, xo4, xv4⟩, xd4, xs4, xt4, xk4⟩,
    xf4_part,
    ⟨fi4, _, ya4, yt4, fun_mk yl4 yc4 yk4, (fun_mk (st := (inClass (top 6) 0)) yl4 yc4 yk4).binds fun _ _ _ _ _ _ us hl => match us, hl with | [_, _], _ => rfl⟩,
    rfl,
    ⟨⟨_, _, _, _, _, _, _, _, _, _, _, _, _, _, _, xo5, xv5⟩, xd5, xs5, xt5, xk5⟩,
    xf5_index,
    ⟨fi5, _, ya5, yt5, fun_mk yl5 yc5 yk5, (fun_mk (st := (inClass (top 7) 0)) yl5 yc5 yk5).binds fun _ _ _ _ _ _ us hl => match us, hl with | [_, _], _ => rfl⟩,
    rfl,
    ⟨⟨_, _, _, _, _, _, _, _, _, _, _, _, _, _, _, xo6, xv6⟩, xd6, xs6, xt6, xk6⟩,
    xf6_index,
    ⟨fi6, _, ya6, yt6, fun_mk yl6 yc6 yk6, (fun_mk (st := (inClass (top 8) 0)) yl6 yc6 yk6).binds fun _ _ _ _ _ _ us hl => match us, hl with | [_, _], _ => rfl⟩,
    rfl,
    ⟨⟨_, _, _, _, _, _, _, _, _, _, _, _, _, _, _, xo7, xv7⟩, xd7, xs7, xt7, xk7⟩,
    xf7_part,
    ⟨fi7, _, ya7, yt7, fun_mk yl7 yc7 yk7, (fun_mk (st := (inClass (top 9) 0)) yl7 yc7 yk7).binds fun _ _ _ _ _ _ us hl => match us, hl with | [_, _], _ => rfl⟩,
    (fun j hj => by
      match j, hj with
      | 0, _ => exact xj0_1
      | 1, _ => exact xj1_1
      | 2, _ => exact xj2_1
      | 3, _ => exact xj3_1
      | 4, _ => exact xj4_1
      | 5, _ => exact xj5_1
      | 6, _ => exact xj6_1
      | 7, _ => exact xj7_1
      | z + 8, h => omega),
    (fun j hj => by
      match j, hj with
      | 0, _ => exact xj0_3
      | 1, _ => exact xj1_3
      | 2, _ => exact xj2_3
      | 3, _ => exact xj3_3
      | 4, _ => exact xj4_3
      | 5, _ => exact xj5_3
      | 6, _ => exact xj6_3
      | 7, _ => exact xj7_3
      | z + 8, h => omega),
    (fun j hj => by
      match j, hj with
      | 0, _ => exact xj0_4
      | 1, _ => exact xj1_4
      | 2, _ => exact xj2_4
      | 3, _ => exact xj3_4
      | 4, _ => exact xj4_4
      | 5, _ => exact xj5_4
      | 6, _ => exact xj6_4
      | 7, _ => exact xj7_4
      | z + 8, h => omega),
    (fun j hj => by
      match j, hj with
      | 0, _ => exact xj0_2
      | 1, _ => exact xj1_2
      | 2, _ => exact xj2_2
      | 3, _ => exact xj3_2
      | 4, _ => exact xj4_2
      | 5, _ => exact xj5_2
      | 6, _ => exact xj6_2
      | 7, _ => exact xj7_2
      | z + 8, h => omega),
    (fun j hj => by
      match j, hj with
      | 0, _ => exact xj0_7
      | 1, _ => exact xj1_7
      | 2, _ => exact xj2_7
      | 3, _ => exact xj3_7
      | 4, _ => exact xj4_7
      | 5, _ => exact xj5_7
      | 6, _ => exact xj6_7
      | 7, _ => exact xj7_7
      | z + 8, h => omega),
    (fun j hj => by
      match j, hj with
      | 0, _ => exact xj0_0
      | 1, _ => exact xj1_0
      | 2, _ => exact xj2_0
      | 3, _ => exact xj3_0
      | 4, _ => exact xj4_0
      | 5, _ => exact xj5_0
      | 6, _ => exact xj6_0
      | 7, _ => exact xj7_0
      | z + 8, h => omega),
    (fun j hj => by
      match j, hj with
      | 0, _ => exact xj0_ValueError
      | 1, _ => exact xj1_ValueError
      | 2, _ => exact xj2_ValueError
      | 3, _ => exact xj3_ValueError
      | 4, _ => exact xj4_ValueError
      | 5, _ => exact xj5_ValueError
      | 6, _ => exact xj6_ValueError
      | 7, _ => exact xj7_ValueError
      | z + 8, h => omega),
    (Tr.tgs_cons (k := 8) ⟨_, (⟨PySem.W.mg_of KX GT on8, ⟨pg8, ph8, po8, ps8⟩, pc8, pm_8, pt8, pi8⟩ : CT K mg ⟨K, (fun k => ([xa0, xa1, xa2, xa3, xa4, xa5, xa6, xa7, oa8, oa9] : List Addr).getD k 0), (fun k => ([[], [], ["part"], ["part"], ["part"], ["index"], ["index"], ["part"], ["shown", "tests", "once"], ["heads", "body"]] : List (List Str)).getD k []), fun _ => .non⟩ 8 "Sending")⟩ (Tr.tgs_cons (k := 9) ⟨_, (⟨PySem.W.mg_of KX GT on9, ⟨pg9, ph9, po9, ps9⟩, pc9, pm_9, pt9, pi9⟩ : CT K mg ⟨K, (fun k => ([xa0, xa1, xa2, xa3, xa4, xa5, xa6, xa7, oa8, oa9] : List Addr).getD k 0), (fun k => ([[], [], ["part"], ["part"], ["part"], ["index"], ["index"], ["part"], ["shown", "tests", "once"], ["heads", "body"]] : List (List Str)).getD k []), fun _ => .non⟩ 9 "Sheet")⟩ Tr.tgs_nil)),
    ⟨PySem.W.mg_of KX GT on8, ⟨pg8, ph8, po8, ps8⟩, pc8, pm_8, pt8, pi8⟩,
    rfl,
    pa8,
    pk8,
    pn8,
    (Tr.tgs_cons (k := 8) (Tr.nf_same _ _) (Tr.tgs_cons (k := 9) (Tr.nf_sub q8_9) Tr.tgs_nil)),
    (Tr.tgs_cons (k := 8) (Tr.kit_same _ _) (Tr.tgs_cons (k := 9) (Tr.kit_sub r8_9 pi8 pt8 q8_9) Tr.tgs_nil)),
    ⟨PySem.W.mg_of KX GT on9, ⟨pg9, ph9, po9, ps9⟩, pc9, pm_9, pt9, pi9⟩,
    rfl,
    pa9,
    pk9,
    pn9,
    (Tr.tgs_cons (k := 8) (Tr.nf_sub q9_8) (Tr.tgs_cons (k := 9) (Tr.nf_same _ _) Tr.tgs_nil)),
    (Tr.tgs_cons (k := 8) (Tr.kit_sub r9_8 pi9 pt9 q9_8) (Tr.tgs_cons (k := 9) (Tr.kit_same _ _) Tr.tgs_nil)),
    ne8,
    ne9,
    (Tr.fdok_cons (k := 9) (fs := ["heads", "body"]) ⟨pg9, ph9, po9, ps9⟩ nf9_body rfl rfl (by decide) (by decide) Tr.fdok_nil),
    (Tr.fdok_cons (k := 9) (fs := ["heads", "body"]) ⟨pg9, ph9, po9, ps9⟩ nf9_heads rfl rfl (by decide) (by decide) Tr.fdok_nil),
    (Tr.fdok_cons (k := 8) (fs := ["shown", "tests", "once"]) ⟨pg8, ph8, po8, ps8⟩ nf8_once rfl rfl (by decide) (by decide) Tr.fdok_nil),
    (Tr.fdok_cons (k := 8) (fs := ["shown", "tests", "once"]) ⟨pg8, ph8, po8, ps8⟩ nf8_shown rfl rfl (by decide) (by decide) Tr.fdok_nil),
    (Tr.fdok_cons (k := 8) (fs := ["shown", "tests", "once"]) ⟨pg8, ph8, po8, ps8⟩ nf8_tests rfl rfl (by decide) (by decide) Tr.fdok_nil)⟩
  obtain ⟨fd, hb, hF⟩ := Tr.def_head hfa T.d_law (fun _ _ _ _ _ _ _ => rfl) fun base => ok_law (P := P) (w := w) (base := base) T
  exact ⟨fd, hb, fun base h1 h2 => (hF base h1 h2).law⟩
end Law
open PySem PySem.W PyProof.Rows
set_option maxRecDepth 100000 in
set_option maxHeartbeats 0 in
theorem PySem.Challenge.cw_sheetback_k14_sendings_refused_holds : PySem.Challenge.rw_sheetback_k14_sendings_refused.Holds := by
  w_on; o_law; k_head; (case hw => w_witness2)
  k_fill
  refine Tr.walkG (l := PySem.Challenge.rw_sheetback_k14_sendings_refused) (k := 10) (x := "_law_script") (sp := fun _ => Tr.spLaw Law.f_law) rfl (by decide) rfl ?hr (fun w h Y => PySem.W.kIn_of Y) ?hL ?F ?hsp
  case hr => exact ⟨rfl, by decide, by decide⟩
  case hL => intro w; first | rfl | kernel_rfl
  case hsp => exact fun w H a ns hl hb ho => ⟨a, ns, rfl, ho, Nat.le_trans hl (by decide), Law.law_true ns hl hb, fun _ _ h => h⟩
  case F =>
    intro w s₀ mg mb fa h G KX hmg
    refine' Law.all_mk KX G.T.g (And.right G.X) rfl hmg ?g_KEY ?g_LETTERS ?g_MOST_SHOWN ?b_ValueError ?b_abs ?b_all ?b_bool ?b_int ?b_isinstance ?b_len ?b_list ?b_max ?b_min ?b_range ?b_set ?b_str ?b_tuple ?on8 ?on9 ?a0 ?l0 ?c0 ?k0 ?a1 ?l1 ?c1 ?k1 ?a2 ?l2 ?c2 ?k2 ?a3 ?l3 ?c3 ?k3 ?a4 ?l4 ?c4 ?k4 ?a5 ?l5 ?c5 ?k5 ?a6 ?l6 ?c6 ?k6 ?a7 ?l7 ?c7 ?k7 ?a8 ?l8 ?c8 ?k8 ?a9 ?l9 ?c9 ?k9 ?a10 ?l10 ?c10 ?k10 ?a11 ?i11 ?j11 ?l11 ?c11 ?k11 ?dl11 ?de11_0 ?a12 ?i12 ?j12 ?l12 ?c12 ?k12 ?a13 ?i13 ?j13 ?l13 ?c13 ?k13 ?a14 ?l14 ?c14 ?k14 ?a15 ?l15 ?c15 ?k15 ?a16 ?l16 ?c16 ?k16 ?a17 ?l17 ?c17 ?k17 ?a18 ?l18 ?c18 ?k18 ?a19 ?l19 ?c19 ?k19 ?a20 ?l20 ?c20 ?k20 ?a21 ?l21 ?c21 ?k21 ?a22 ?l22 ?c22 ?k22 ?a23 ?l23 ?c23 ?k23 ?a24 ?l24 ?c24 ?k24 ?a25 ?i25 ?j25 ?l25 ?c25 ?k25 ?a26 ?i26 ?j26 ?l26 ?c26 ?k26 ?a27 ?i27 ?j27 ?l27 ?c27 ?k27 ?a28 ?l28 ?c28 ?k28 ?a29 ?l29 ?c29 ?k29 ?a30 ?l30 ?c30 ?k30 ?xsp ?xtk ?xn0 ?xs0 ?xt0 ?xk0 ?xc0 ?xh0 ?xg0 ?xr0 ?xl0 ?xm0 ?xn1 ?xs1 ?xt1 ?xk1 ?xc1 ?xh1 ?xg1 ?xr1 ?xl1 ?xm1 ?xn2 ?xs2 ?xt2 ?xk2 ?xc2 ?xh2 ?xg2 ?xr2 ?xl2 ?xm2 ?xn3 ?xs3 ?xt3 ?xk3 ?xc3 ?xh3 ?xg3 ?xr3 ?xl3 ?xm3 ?xn4 ?xs4 ?xt4 ?xk4 ?xc4 ?xh4 ?xg4 ?xr4 ?xl4 ?xm4 ?xn5 ?xs5 ?xt5 ?xk5 ?xc5 ?xh5 ?xg5 ?xr5 ?xl5 ?xm5 ?xn6 ?xs6 ?xt6 ?xk6 ?xc6 ?xh6 ?xg6 ?xr6 ?xl6 ?xm6 ?xn7 ?xs7 ?xt7 ?xk7 ?xc7 ?xh7 ?xg7 ?xr7 ?xl7 ?xm7 ?xo2 ?xv2 ?xd2 ?xf2_part ?ya2 ?yt2 ?yl2 ?yc2 ?yk2 ?xo3 ?xv3 ?xd3 ?xf3_part ?ya3 ?yt3 ?yl3 ?yc3 ?yk3 ?xo4 ?xv4 ?xd4 ?xf4_part ?ya4 ?yt4 ?yl4 ?yc4 ?yk4 ?xo5 ?xv5 ?xd5 ?xf5_index ?ya5 ?yt5 ?yl5 ?yc5 ?yk5 ?xo6 ?xv6 ?xd6 ?xf6_index ?ya6 ?yt6 ?yl6 ?yc6 ?yk6 ?xo7 ?xv7 ?xd7 ?xf7_part ?ya7 ?yt7 ?yl7 ?yc7 ?yk7 ?xj0_1 ?xj1_1 ?xj2_1 ?xj3_1 ?xj4_1 ?xj5_1 ?xj6_1 ?xj7_1 ?xj0_3 ?xj1_3 ?xj2_3 ?xj3_3 ?xj4_3 ?xj5_3 ?xj6_3 ?xj7_3 ?xj0_4 ?xj1_4 ?xj2_4 ?xj3_4 ?xj4_4 ?xj5_4 ?xj6_4 ?xj7_4 ?xj0_2 ?xj1_2 ?xj2_2 ?xj3_2 ?xj4_2 ?xj5_2 ?xj6_2 ?xj7_2 ?xj0_7 ?xj1_7 ?xj2_7 ?xj3_7 ?xj4_7 ?xj5_7 ?xj6_7 ?xj7_7 ?xj0_0 ?xj1_0 ?xj2_0 ?xj3_0 ?xj4_0 ?xj5_0 ?xj6_0 ?xj7_0 ?xj0_ValueError ?xj1_ValueError ?xj2_ValueError ?xj3_ValueError ?xj4_ValueError ?xj5_ValueError ?xj6_ValueError ?xj7_ValueError ?pg8 ?ph8 ?po8 ?ps8 ?pc8 ?pm_8 ?pt8 ?pi8 ?pa8 ?pk8 ?pn8 ?q8_9 ?r8_9 ?pg9 ?ph9 ?po9 ?ps9 ?pc9 ?pm_9 ?pt9 ?pi9 ?pa9 ?pk9 ?pn9 ?q9_8 ?r9_8 ?nf9_body ?nf9_heads ?nf8_once ?nf8_shown ?nf8_tests ?ne8 ?ne9
    (case g_KEY => k_is)
    (case g_LETTERS => k_is)
    (case g_MOST_SHOWN => k_is)
    (case b_ValueError => k_is)
    (case b_abs => k_is)
    (case b_all => k_is)
    (case b_bool => k_is)
    (case b_int => k_is)
    (case b_isinstance => k_is)
    (case b_len => k_is)
    (case b_list => k_is)
    (case b_max => k_is)
    (case b_min => k_is)
    (case b_range => k_is)
    (case b_set => k_is)
    (case b_str => k_is)
    (case b_tuple => k_is)
    (case on8 => k_is)
    (case on9 => k_is)
    (case a0 => k_is)
    (case l0 => k_is)
    (case c0 => k_is)
    (case k0 => k_is)
    (case a1 => k_is)
    (case l1 => k_is)
    (case c1 => k_is)
    (case k1 => k_is)
    (case a2 => k_is)
    (case l2 => k_is)
    (case c2 => k_is)
    (case k2 => k_is)
    (case a3 => k_is)
    (case l3 => k_is)
    (case c3 => k_is)
    (case k3 => k_is)
    (case a4 => k_is)
    (case l4 => k_is)
    (case c4 => k_is)
    (case k4 => k_is)
    (case a5 => k_is)
    (case l5 => k_is)
    (case c5 => k_is)
    (case k5 => k_is)
    (case a6 => k_is)
    (case l6 => k_is)
    (case c6 => k_is)
    (case k6 => k_is)
    (case a7 => k_is)
    (case l7 => k_is)
    (case c7 => k_is)
    (case k7 => k_is)
    (case a8 => k_is)
    (case l8 => k_is)
    (case c8 => k_is)
    (case k8 => k_is)
    (case a9 => k_is)
    (case l9 => k_is)
    (case c9 => k_is)
    (case k9 => k_is)
    (case a10 => k_is)
    (case l10 => k_is)
    (case c10 => k_is)
    (case k10 => k_is)
    (case a11 => k_is)
    (case i11 => k_is)
    (case j11 => k_is)
    (case l11 => k_is)
    (case c11 => k_is)
    (case k11 => k_is)
    (case dl11 => k_is)
    (case de11_0 => k_is)
    (case a12 => k_is)
    (case i12 => k_is)
    (case j12 => k_is)
    (case l12 => k_is)
    (case c12 => k_is)
    (case k12 => k_is)
    (case a13 => k_is)
    (case i13 => k_is)
    (case j13 => k_is)
    (case l13 => k_is)
    (case c13 => k_is)
    (case k13 => k_is)
    (case a14 => k_is)
    (case l14 => k_is)
    (case c14 => k_is)
    (case k14 => k_is)
    (case a15 => k_is)
    (case l15 => k_is)
    (case c15 => k_is)
    (case k15 => k_is)
    (case a16 => k_is)
    (case l16 => k_is)
    (case c16 => k_is)
    (case k16 => k_is)
    (case a17 => k_is)
    (case l17 => k_is)
    (case c17 => k_is)
    (case k17 => k_is)
    (case a18 => k_is)
    (case l18 => k_is)
    (case c18 => k_is)
    (case k18 => k_is)
    (case a19 => k_is)
    (case l19 => k_is)
    (case c19 => k_is)
    (case k19 => k_is)
    (case a20 => k_is)
    (case l20 => k_is)
    (case c20 => k_is)
    (case k20 => k_is)
    (case a21 => k_is)
    (case l21 => k_is)
    (case c21 => k_is)
    (case k21 => k_is)
    (case a22 => k_is)
    (case l22 => k_is)
    (case c22 => k_is)
    (case k22 => k_is)
    (case a23 => k_is)
    (case l23 => k_is)
    (case c23 => k_is)
    (case k23 => k_is)
    (case a24 => k_is)
    (case l24 => k_is)
    (case c24 => k_is)
    (case k24 => k_is)
    (case a25 => k_is)
    (case i25 => k_is)
    (case j25 => k_is)
    (case l25 => k_is)
    (case c25 => k_is)
    (case k25 => k_is)
    (case a26 => k_is)
    (case i26 => k_is)
    (case j26 => k_is)
    (case l26 => k_is)
    (case c26 => k_is)
    (case k26 => k_is)
    (case a27 => k_is)
    (case i27 => k_is)
    (case j27 => k_is)
    (case l27 => k_is)
    (case c27 => k_is)
    (case k27 => k_is)
    (case a28 => k_is)
    (case l28 => k_is)
    (case c28 => k_is)
    (case k28 => k_is)
    (case a29 => k_is)
    (case l29 => k_is)
    (case c29 => k_is)
    (case k29 => k_is)
    (case a30 => k_is)
    (case l30 => k_is)
    (case c30 => k_is)
    (case k30 => k_is)
    (case xsp => k_is)
    (case xtk => k_is)
    (case xn0 => k_is)
    (case xs0 => k_is)
    (case xt0 => k_is)
    (case xk0 => k_is)
    (case xc0 => k_is)
    (case xh0 => k_is)
    (case xg0 => k_is)
    (case xr0 => k_is)
    (case xl0 => k_is)
    (case xm0 => k_is)
    (case xn1 => k_is)
    (case xs1 => k_is)
    (case xt1 => k_is)
    (case xk1 => k_is)
    (case xc1 => k_is)
    (case xh1 => k_is)
    (case xg1 => k_is)
    (case xr1 => k_is)
    (case xl1 => k_is)
    (case xm1 => k_is)
    (case xn2 => k_is)
    (case xs2 => k_is)
    (case xt2 => k_is)
    (case xk2 => k_is)
    (case xc2 => k_is)
    (case xh2 => k_is)
    (case xg2 => k_is)
    (case xr2 => k_is)
    (case xl2 => k_is)
    (case xm2 => k_is)
    (case xn3 => k_is)
    (case xs3 => k_is)
    (case xt3 => k_is)
    (case xk3 => k_is)
    (case xc3 => k_is)
    (case xh3 => k_is)
    (case xg3 => k_is)
    (case xr3 => k_is)
    (case xl3 => k_is)
    (case xm3 => k_is)
    (case xn4 => k_is)
    (case xs4 => k_is)
    (case xt4 => k_is)
    (case xk4 => k_is)
    (case xc4 => k_is)
    (case xh4 => k_is)
    (case xg4 => k_is)
    (case xr4 => k_is)
    (case xl4 => k_is)
    (case xm4 => k_is)
    (case xn5 => k_is)
    (case xs5 => k_is)
    (case xt5 => k_is)
    (case xk5 => k_is)
    (case xc5 => k_is)
    (case xh5 => k_is)
    (case xg5 => k_is)
    (case xr5 => k_is)
    (case xl5 => k_is)
    (case xm5 => k_is)
    (case xn6 => k_is)
    (case xs6 => k_is)
    (case xt6 => k_is)
    (case xk6 => k_is)
    (case xc6 => k_is)
    (case xh6 => k_is)
    (case xg6 => k_is)
    (case xr6 => k_is)
    (case xl6 => k_is)
    (case xm6 => k_is)
    (case xn7 => k_is)
    (case xs7 => k_is)
    (case xt7 => k_is)
    (case xk7 => k_is)
    (case xc7 => k_is)
    (case xh7 => k_is)
    (case xg7 => k_is)
    (case xr7 => k_is)
    (case xl7 => k_is)
    (case xm7 => k_is)
    (case xo2 => k_is)
    (case xv2 => decide +kernel)
    (case xd2 => k_is)
    (case xf2_part => k_is)
    (case ya2 => k_is)
    (case yt2 => k_is)
    (case yl2 => k_is)
    (case yc2 => k_is)
    (case yk2 => k_is)
    (case xo3 => k_is)
    (case xv3 => decide +kernel)
    (case xd3 => k_is)
    (case xf3_part => k_is)
    (case ya3 => k_is)
    (case yt3 => k_is)
    (case yl3 => k_is)
    (case yc3 => k_is)
    (case yk3 => k_is)
    (case xo4 => k_is)
    (case xv4 => decide +kernel)
    (case xd4 => k_is)
    (case xf4_part => k_is)
    (case ya4 => k_is)
    (case yt4 => k_is)
    (case yl4 => k_is)
    (case yc4 => k_is)
    (case yk4 => k_is)
    (case xo5 => k_is)
    (case xv5 => decide +kernel)
    (case xd5 => k_is)
    (case xf5_index => k_is)
    (case ya5 => k_is)
    (case yt5 => k_is)
    (case yl5 => k_is)
    (case yc5 => k_is)
    (case yk5 => k_is)
    (case xo6 => k_is)
    (case xv6 => decide +kernel)
    (case xd6 => k_is)
    (case xf6_index => k_is)
    (case ya6 => k_is)
    (case yt6 => k_is)
    (case yl6 => k_is)
    (case yc6 => k_is)
    (case yk6 => k_is)
    (case xo7 => k_is)
    (case xv7 => decide +kernel)
    (case xd7 => k_is)
    (case xf7_part => k_is)
    (case ya7 => k_is)
    (case yt7 => k_is)
    (case yl7 => k_is)
    (case yc7 => k_is)
    (case yk7 => k_is)
    (case xj0_1 => k_is)
    (case xj1_1 => k_is)
    (case xj2_1 => k_is)
    (case xj3_1 => k_is)
    (case xj4_1 => k_is)
    (case xj5_1 => k_is)
    (case xj6_1 => k_is)
    (case xj7_1 => k_is)
    (case xj0_3 => k_is)
    (case xj1_3 => k_is)
    (case xj2_3 => k_is)
    (case xj3_3 => k_is)
    (case xj4_3 => k_is)
    (case xj5_3 => k_is)
    (case xj6_3 => k_is)
    (case xj7_3 => k_is)
    (case xj0_4 => k_is)
    (case xj1_4 => k_is)
    (case xj2_4 => k_is)
    (case xj3_4 => k_is)
    (case xj4_4 => k_is)
    (case xj5_4 => k_is)
    (case xj6_4 => k_is)
    (case xj7_4 => k_is)
    (case xj0_2 => k_is)
    (case xj1_2 => k_is)
    (case xj2_2 => k_is)
    (case xj3_2 => k_is)
    (case xj4_2 => k_is)
    (case xj5_2 => k_is)
    (case xj6_2 => k_is)
    (case xj7_2 => k_is)
    (case xj0_7 => k_is)
    (case xj1_7 => k_is)
    (case xj2_7 => k_is)
    (case xj3_7 => k_is)
    (case xj4_7 => k_is)
    (case xj5_7 => k_is)
    (case xj6_7 => k_is)
    (case xj7_7 => k_is)
    (case xj0_0 => k_is)
    (case xj1_0 => k_is)
    (case xj2_0 => k_is)
    (case xj3_0 => k_is)
    (case xj4_0 => k_is)
    (case xj5_0 => k_is)
    (case xj6_0 => k_is)
    (case xj7_0 => k_is)
    (case xj0_ValueError => k_is)
    (case xj1_ValueError => k_is)
    (case xj2_ValueError => k_is)
    (case xj3_ValueError => k_is)
    (case xj4_ValueError => k_is)
    (case xj5_ValueError => k_is)
    (case xj6_ValueError => k_is)
    (case xj7_ValueError => k_is)
    (case pg8 => k_is)
    (case ph8 => k_is)
    (case po8 => k_is)
    (case ps8 => k_is)
    (case pc8 => k_is)
    (case pm_8 => k_is)
    (case pt8 => k_is)
    (case pi8 => k_is)
    (case pa8 => k_is)
    (case pk8 => k_is)
    (case pn8 => k_is)
    (case q8_9 => k_is)
    (case r8_9 => decide +kernel)
    (case pg9 => k_is)
    (case ph9 => k_is)
    (case po9 => k_is)
    (case ps9 => k_is)
    (case pc9 => k_is)
    (case pm_9 => k_is)
    (case pt9 => k_is)
    (case pi9 => k_is)
    (case pa9 => k_is)
    (case pk9 => k_is)
    (case pn9 => k_is)
    (case q9_8 => k_is)
    (case r9_8 => decide +kernel)
    (case nf9_body => k_is)
    (case nf9_heads => k_is)
    (case nf8_once => k_is)
    (case nf8_shown => k_is)
    (case nf8_tests => k_is)
    (case ne8 => k_is)
    (case ne9 => k_is)
