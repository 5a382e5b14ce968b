import PyProof.Rows.All
import KE.OsRunLaw
import HandS.Words
import PySem.Challenge.RW_sheetback_k00_error_classes
import PySem.Str
import Wide.All
import OpenK.AllK
import HandS.Base
import HandS.Call
import HandS.List
import HandS.TupAny
import HandS.Zip
import KE.KeyNested
import HandS.TupSets
import HandS.SetKeys
import PyProof.SetNew
import Wide.FinOn
import HandS.ForMost
import HandS.Exc
import HandS.WordsExc
import HandS.CallSlots
import HandS.Wide
import HandS.IsInst
import PyProof.P3In
import PyProof.Rows.RuleB_pow
import KE.KRevSl
import HandS.WideBits
import HandS.Style
import HandS.EndBits
import HandS.Codes
import HandS.TryMany
import HandS.ExcField
import HandS.RaiseMore
import HandS.ExcInit
import KE.KExcIs
import HandS.Dict
import OpenK.KWalk
import OpenK.KOps
import OpenK.KMeth
import KE.KOpsOwn
import HandS.Flow
import HandS.Strs
import HandS.Text
import HandS.SetFor
import PyProof.ReprRoads
import HandS.SortInts
import PyProof.ListStr
import HandS.DictComp
import HandS.Defaults
import OpenK.KMake
import HandS.NamedTupSort
import PyProof.DictUpdate
import KE.KDictPairs
import HandS.ListItems
import KE.GoesMore
import KE.GoesZip
import KE.GoesEnum
import HandS.Iter
import PyProof.EnumMake
import HandS.SetBool
import PyProof.NeKinds
import HandS.Small
import HandS.SortKw
import KE.DatumOrd
import HandS.NoneIn
import HandS.Property
import KE.DataEq
set_option Elab.async false
set_option linter.all false
set_option maxRecDepth 100000
set_option maxHeartbeats 0
namespace Law
open PySem L2 PySem.W PyProof.Rows
def htop (i : Nat) : Stmt := PySem.Challenge.pw_sheetback_k00_error_classes.main.body.getD i (.Pass ⟨0, 0, 0, 0⟩)
def ko2 (P : Params) : Obj := .mk .none none (.dict #[] 0) #[]
def ko3 (P : Params) : Obj := .mk (.type "dict") none (.dict #[(.mk (PySem.PyData.keyHash P (.ofString "__name__")) (.str (.ofString "__name__") 165) (.str (.ofString "law_sheetback_k00_error_classes") 655)), (.mk (PySem.PyData.keyHash P (.ofString "__doc__")) (.str (.ofString "__doc__") 166) .none), (.mk (PySem.PyData.keyHash P (.ofString "__package__")) (.str (.ofString "__package__") 167) .none), (.mk (PySem.PyData.keyHash P (.ofString "__loader__")) (.str (.ofString "__loader__") 168) (.builtin "__main__.__loader__#opaque")), (.mk (PySem.PyData.keyHash P (.ofString "__spec__")) (.str (.ofString "__spec__") 169) .none), (.mk (PySem.PyData.keyHash P (.ofString "__annotations__")) (.str (.ofString "__annotations__") 170) (.ref 6)), (.mk (PySem.PyData.keyHash P (.ofString "__builtins__")) (.str (.ofString "__builtins__") 171) (.ref 4)), (.mk (PySem.PyData.keyHash P (.ofString "__file__")) (.str (.ofString "__file__") 173) (.str (.ofString "/claim/cut.py") 172)), (.mk (PySem.PyData.keyHash P (.ofString "__cached__")) (.str (.ofString "__cached__") 174) .none), (.mk (PySem.PyData.keyHash P (.ofString "SheetError")) (.str (.ofString "SheetError") 206) (.ref 24)), (.mk (PySem.PyData.keyHash P (.ofString "NoColumns")) (.str (.ofString "NoColumns") 222) (.ref 37)), (.mk (PySem.PyData.keyHash P (.ofString "NotNeutral")) (.str (.ofString "NotNeutral") 238) (.ref 49)), (.mk (PySem.PyData.keyHash P (.ofString "NotKeyed")) (.str (.ofString "NotKeyed") 254) (.ref 61)), (.mk (PySem.PyData.keyHash P (.ofString "NotSame")) (.str (.ofString "NotSame") 270) (.ref 73)), (.mk (PySem.PyData.keyHash P (.ofString "NoCommand")) (.str (.ofString "NoCommand") 286) (.ref 85)), (.mk (PySem.PyData.keyHash P (.ofString "NothingToUndo")) (.str (.ofString "NothingToUndo") 302) (.ref 97)), (.mk (PySem.PyData.keyHash P (.ofString "NoKey")) (.str (.ofString "NoKey") 327) (.ref 116)), (.mk (PySem.PyData.keyHash P (.ofString "NoRow")) (.str (.ofString "NoRow") 352) (.ref 135)), (.mk (PySem.PyData.keyHash P (.ofString "Missing")) (.str (.ofString "Missing") 377) (.ref 154)), (.mk (PySem.PyData.keyHash P (.ofString "Clash")) (.str (.ofString "Clash") 402) (.ref 173)), (.mk (PySem.PyData.keyHash P (.ofString "NoSending")) (.str (.ofString "NoSending") 427) (.ref 192)), (.mk (PySem.PyData.keyHash P (.ofString "NoJoining")) (.str (.ofString "NoJoining") 452) (.ref 211)), (.mk (PySem.PyData.keyHash P (.ofString "NoMeanwhile")) (.str (.ofString "NoMeanwhile") 477) (.ref 230)), (.mk (PySem.PyData.keyHash P (.ofString "NoLine")) (.str (.ofString "NoLine") 502) (.ref 249)), (.mk (PySem.PyData.keyHash P (.ofString "NoCells")) (.str (.ofString "NoCells") 527) (.ref 268)), (.mk (PySem.PyData.keyHash P (.ofString "Refused")) (.str (.ofString "Refused") 554) (.ref 287)), (.mk (PySem.PyData.keyHash P (.ofString "NoText")) (.str (.ofString "NoText") 579) (.ref 306)), (.mk (PySem.PyData.keyHash P (.ofString "NoName")) (.str (.ofString "NoName") 604) (.ref 325)), (.mk (PySem.PyData.keyHash P (.ofString "NoLimit")) (.str (.ofString "NoLimit") 629) (.ref 344)), (.mk (PySem.PyData.keyHash P (.ofString "Full")) (.str (.ofString "Full") 654) (.ref 363)), (.mk (PySem.PyData.keyHash P (.ofString "_law_spool")) (.str (.ofString "_law_spool") 665) (.ref 372)), (.mk (PySem.PyData.keyHash P (.ofString "_law_pull")) (.str (.ofString "_law_pull") 675) (.ref 379)), (.mk (PySem.PyData.keyHash P (.ofString "_law_like")) (.str (.ofString "_law_like") 681) (.ref 384)), (.mk (PySem.PyData.keyHash P (.ofString "_law_raise_some")) (.str (.ofString "_law_raise_some") 690) (.ref 391)), (.mk (PySem.PyData.keyHash P (.ofString "_law_raise_more")) (.str (.ofString "_law_raise_more") 699) (.ref 398)), (.mk (PySem.PyData.keyHash P (.ofString "_law_marks")) (.str (.ofString "_law_marks") 707) (.ref 405)), (.mk (PySem.PyData.keyHash P (.ofString "_law_fields_seen")) (.str (.ofString "_law_fields_seen") 718) (.ref 412)), (.mk (PySem.PyData.keyHash P (.ofString "_law_thing")) (.str (.ofString "_law_thing") 724) (.ref 417)), (.mk (PySem.PyData.keyHash P (.ofString "_law_way_right")) (.str (.ofString "_law_way_right") 730) (.ref 422)), (.mk (PySem.PyData.keyHash P (.ofString "law")) (.str (.ofString "law") 736) (.ref 427))] 40) #[]
def ko23 (P : Params) : Obj := .mk (.type "dict") none (.dict #[(.mk (PySem.PyData.keyHash P (.ofString "__module__")) (.str (.ofString "__module__") 196) (.str (.ofString "sheetback.errors") 187)), (.mk (PySem.PyData.keyHash P (.ofString "__firstlineno__")) (.str (.ofString "__firstlineno__") 200) (.int 2 199)), (.mk (PySem.PyData.keyHash P (.ofString "__static_attributes__")) (.str (.ofString "__static_attributes__") 201) (.ref 22)), (.mk (PySem.PyData.keyHash P (.ofString "__weakref__")) (.str (.ofString "__weakref__") 203) (.ref 25)), (.mk (PySem.PyData.keyHash P (.ofString "__doc__")) (.str (.ofString "__doc__") 204) .none)] 3) #[]
def ko24 (P : Params) : Obj := .mk (.type "type") none (.cls (.mk (.ofString "SheetError") [(.type "ValueError")] [(.ref 24), (.type "ValueError"), (.type "Exception"), (.type "BaseException"), (.type "object")] 23 (.ofString "SheetError") true [] [(.ref 37), (.ref 49), (.ref 61), (.ref 73), (.ref 85), (.ref 97), (.ref 116), (.ref 135), (.ref 154), (.ref 173), (.ref 192), (.ref 211), (.ref 230), (.ref 249), (.ref 268), (.ref 287), (.ref 306), (.ref 325), (.ref 344), (.ref 363)] false none false)) #[(some (.ref 15)), none, (some (.str (.ofString "SheetError") 189)), (some (.str (.ofString "SheetError") 197)), (some (.builtin "ValueError.__new__")), (some (.bool true))]
def ko36 (P : Params) : Obj := .mk (.type "dict") none (.dict #[(.mk (PySem.PyData.keyHash P (.ofString "__module__")) (.str (.ofString "__module__") 214) (.str (.ofString "sheetback.errors") 187)), (.mk (PySem.PyData.keyHash P (.ofString "__firstlineno__")) (.str (.ofString "__firstlineno__") 218) (.int 4 217)), (.mk (PySem.PyData.keyHash P (.ofString "__static_attributes__")) (.str (.ofString "__static_attributes__") 219) (.ref 35)), (.mk (PySem.PyData.keyHash P (.ofString "__doc__")) (.str (.ofString "__doc__") 220) .none)] 2) #[]
def ko37 (P : Params) : Obj := .mk (.type "type") none (.cls (.mk (.ofString "NoColumns") [(.ref 24)] [(.ref 37), (.ref 24), (.type "ValueError"), (.type "Exception"), (.type "BaseException"), (.type "object")] 36 (.ofString "NoColumns") true [] [] false none false)) #[(some (.ref 28)), none, (some (.str (.ofString "NoColumns") 207)), (some (.str (.ofString "NoColumns") 215)), (some (.builtin "ValueError.__new__")), (some (.bool true))]
def ko48 (P : Params) : Obj := .mk (.type "dict") none (.dict #[(.mk (PySem.PyData.keyHash P (.ofString "__module__")) (.str (.ofString "__module__") 230) (.str (.ofString "sheetback.errors") 187)), (.mk (PySem.PyData.keyHash P (.ofString "__firstlineno__")) (.str (.ofString "__firstlineno__") 234) (.int 6 233)), (.mk (PySem.PyData.keyHash P (.ofString "__static_attributes__")) (.str (.ofString "__static_attributes__") 235) (.ref 47)), (.mk (PySem.PyData.keyHash P (.ofString "__doc__")) (.str (.ofString "__doc__") 236) .none)] 2) #[]
def ko49 (P : Params) : Obj := .mk (.type "type") none (.cls (.mk (.ofString "NotNeutral") [(.ref 24)] [(.ref 49), (.ref 24), (.type "ValueError"), (.type "Exception"), (.type "BaseException"), (.type "object")] 48 (.ofString "NotNeutral") true [] [] false none false)) #[(some (.ref 40)), none, (some (.str (.ofString "NotNeutral") 223)), (some (.str (.ofString "NotNeutral") 231)), (some (.builtin "ValueError.__new__")), (some (.bool true))]
def ko60 (P : Params) : Obj := .mk (.type "dict") none (.dict #[(.mk (PySem.PyData.keyHash P (.ofString "__module__")) (.str (.ofString "__module__") 246) (.str (.ofString "sheetback.errors") 187)), (.mk (PySem.PyData.keyHash P (.ofString "__firstlineno__")) (.str (.ofString "__firstlineno__") 250) (.int 8 249)), (.mk (PySem.PyData.keyHash P (.ofString "__static_attributes__")) (.str (.ofString "__static_attributes__") 251) (.ref 59)), (.mk (PySem.PyData.keyHash P (.ofString "__doc__")) (.str (.ofString "__doc__") 252) .none)] 2) #[]
def ko61 (P : Params) : Obj := .mk (.type "type") none (.cls (.mk (.ofString "NotKeyed") [(.ref 24)] [(.ref 61), (.ref 24), (.type "ValueError"), (.type "Exception"), (.type "BaseException"), (.type "object")] 60 (.ofString "NotKeyed") true [] [] false none false)) #[(some (.ref 52)), none, (some (.str (.ofString "NotKeyed") 239)), (some (.str (.ofString "NotKeyed") 247)), (some (.builtin "ValueError.__new__")), (some (.bool true))]
def ko72 (P : Params) : Obj := .mk (.type "dict") none (.dict #[(.mk (PySem.PyData.keyHash P (.ofString "__module__")) (.str (.ofString "__module__") 262) (.str (.ofString "sheetback.errors") 187)), (.mk (PySem.PyData.keyHash P (.ofString "__firstlineno__")) (.str (.ofString "__firstlineno__") 266) (.int 10 265)), (.mk (PySem.PyData.keyHash P (.ofString "__static_attributes__")) (.str (.ofString "__static_attributes__") 267) (.ref 71)), (.mk (PySem.PyData.keyHash P (.ofString "__doc__")) (.str (.ofString "__doc__") 268) .none)] 2) #[]
def ko73 (P : Params) : Obj := .mk (.type "type") none (.cls (.mk (.ofString "NotSame") [(.ref 24)] [(.ref 73), (.ref 24), (.type "ValueError"), (.type "Exception"), (.type "BaseException"), (.type "object")] 72 (.ofString "NotSame") true [] [] false none false)) #[(some (.ref 64)), none, (some (.str (.ofString "NotSame") 255)), (some (.str (.ofString "NotSame") 263)), (some (.builtin "ValueError.__new__")), (some (.bool true))]
def ko84 (P : Params) : Obj := .mk (.type "dict") none (.dict #[(.mk (PySem.PyData.keyHash P (.ofString "__module__")) (.str (.ofString "__module__") 278) (.str (.ofString "sheetback.errors") 187)), (.mk (PySem.PyData.keyHash P (.ofString "__firstlineno__")) (.str (.ofString "__firstlineno__") 282) (.int 12 281)), (.mk (PySem.PyData.keyHash P (.ofString "__static_attributes__")) (.str (.ofString "__static_attributes__") 283) (.ref 83)), (.mk (PySem.PyData.keyHash P (.ofString "__doc__")) (.str (.ofString "__doc__") 284) .none)] 2) #[]
def ko85 (P : Params) : Obj := .mk (.type "type") none (.cls (.mk (.ofString "NoCommand") [(.ref 24)] [(.ref 85), (.ref 24), (.type "ValueError"), (.type "Exception"), (.type "BaseException"), (.type "object")] 84 (.ofString "NoCommand") true [] [] false none false)) #[(some (.ref 76)), none, (some (.str (.ofString "NoCommand") 271)), (some (.str (.ofString "NoCommand") 279)), (some (.builtin "ValueError.__new__")), (some (.bool true))]
def ko96 (P : Params) : Obj := .mk (.type "dict") none (.dict #[(.mk (PySem.PyData.keyHash P (.ofString "__module__")) (.str (.ofString "__module__") 294) (.str (.ofString "sheetback.errors") 187)), (.mk (PySem.PyData.keyHash P (.ofString "__firstlineno__")) (.str (.ofString "__firstlineno__") 298) (.int 14 297)), (.mk (PySem.PyData.keyHash P (.ofString "__static_attributes__")) (.str (.ofString "__static_attributes__") 299) (.ref 95)), (.mk (PySem.PyData.keyHash P (.ofString "__doc__")) (.str (.ofString "__doc__") 300) .none)] 2) #[]
def ko97 (P : Params) : Obj := .mk (.type "type") none (.cls (.mk (.ofString "NothingToUndo") [(.ref 24)] [(.ref 97), (.ref 24), (.type "ValueError"), (.type "Exception"), (.type "BaseException"), (.type "object")] 96 (.ofString "NothingToUndo") true [] [] false none false)) #[(some (.ref 88)), none, (some (.str (.ofString "NothingToUndo") 287)), (some (.str (.ofString "NothingToUndo") 295)), (some (.builtin "ValueError.__new__")), (some (.bool true))]
def ko112 (P : Params) : Obj := .mk (.type "code") none (.fields #[(.str (.ofString "__init__") 315), (.str (.ofString "NoKey.__init__") 316), (.str (.ofString "/claim/cut.py") 317), (.int 18 0), (.int 2 0), (.int 0 0), (.int 0 0), (.int 3 0), (.ref 107), (.bool true), (.int 181 0), (.ref 108), .none, (.ref 109), (.ref 110), (.ref 111), (.int 320 0), (.int 18 0), (.str (.ofString "/claim/cut.py") 321)]) #[]
def ko113 (P : Params) : Obj := .mk (.type "function") none (.func (PySem.W.fnOf (.ofString "__init__") (.ofString "NoKey.__init__") (defArgs (inClass (htop 8) 0)) (defBody (inClass (htop 8) 0)) (defScope (inClass (htop 8) 0)) .none .none .none (.str (.ofString "sheetback.errors") 187) none (.ref 112) .none)) #[]
def ko115 (P : Params) : Obj := .mk (.type "dict") none (.dict #[(.mk (PySem.PyData.keyHash P (.ofString "__module__")) (.str (.ofString "__module__") 310) (.str (.ofString "sheetback.errors") 187)), (.mk (PySem.PyData.keyHash P (.ofString "__firstlineno__")) (.str (.ofString "__firstlineno__") 314) (.int 16 313)), (.mk (PySem.PyData.keyHash P (.ofString "__init__")) (.str (.ofString "__init__") 322) (.ref 113)), (.mk (PySem.PyData.keyHash P (.ofString "__static_attributes__")) (.str (.ofString "__static_attributes__") 324) (.ref 114)), (.mk (PySem.PyData.keyHash P (.ofString "__doc__")) (.str (.ofString "__doc__") 325) .none)] 2) #[]
def ko116 (P : Params) : Obj := .mk (.type "type") none (.cls (.mk (.ofString "NoKey") [(.ref 24)] [(.ref 116), (.ref 24), (.type "ValueError"), (.type "Exception"), (.type "BaseException"), (.type "object")] 115 (.ofString "NoKey") true [] [] false none false)) #[(some (.ref 100)), none, (some (.str (.ofString "NoKey") 303)), (some (.str (.ofString "NoKey") 311)), (some (.builtin "ValueError.__new__")), (some (.bool true))]
def ko131 (P : Params) : Obj := .mk (.type "code") none (.fields #[(.str (.ofString "__init__") 340), (.str (.ofString "NoRow.__init__") 341), (.str (.ofString "/claim/cut.py") 342), (.int 22 0), (.int 2 0), (.int 0 0), (.int 0 0), (.int 3 0), (.ref 126), (.bool true), (.int 181 0), (.ref 127), .none, (.ref 128), (.ref 129), (.ref 130), (.int 345 0), (.int 22 0), (.str (.ofString "/claim/cut.py") 346)]) #[]
def ko132 (P : Params) : Obj := .mk (.type "function") none (.func (PySem.W.fnOf (.ofString "__init__") (.ofString "NoRow.__init__") (defArgs (inClass (htop 9) 0)) (defBody (inClass (htop 9) 0)) (defScope (inClass (htop 9) 0)) .none .none .none (.str (.ofString "sheetback.errors") 187) none (.ref 131) .none)) #[]
def ko134 (P : Params) : Obj := .mk (.type "dict") none (.dict #[(.mk (PySem.PyData.keyHash P (.ofString "__module__")) (.str (.ofString "__module__") 335) (.str (.ofString "sheetback.errors") 187)), (.mk (PySem.PyData.keyHash P (.ofString "__firstlineno__")) (.str (.ofString "__firstlineno__") 339) (.int 20 338)), (.mk (PySem.PyData.keyHash P (.ofString "__init__")) (.str (.ofString "__init__") 347) (.ref 132)), (.mk (PySem.PyData.keyHash P (.ofString "__static_attributes__")) (.str (.ofString "__static_attributes__") 349) (.ref 133)), (.mk (PySem.PyData.keyHash P (.ofString "__doc__")) (.str (.ofString "__doc__") 350) .none)] 2) #[]
def ko135 (P : Params) : Obj := .mk (.type "type") none (.cls (.mk (.ofString "NoRow") [(.ref 24)] [(.ref 135), (.ref 24), (.type "ValueError"), (.type "Exception"), (.type "BaseException"), (.type "object")] 134 (.ofString "NoRow") true [] [] false none false)) #[(some (.ref 119)), none, (some (.str (.ofString "NoRow") 328)), (some (.str (.ofString "NoRow") 336)), (some (.builtin "ValueError.__new__")), (some (.bool true))]
def ko150 (P : Params) : Obj := .mk (.type "code") none (.fields #[(.str (.ofString "__init__") 365), (.str (.ofString "Missing.__init__") 366), (.str (.ofString "/claim/cut.py") 367), (.int 26 0), (.int 2 0), (.int 0 0), (.int 0 0), (.int 3 0), (.ref 145), (.bool true), (.int 181 0), (.ref 146), .none, (.ref 147), (.ref 148), (.ref 149), (.int 370 0), (.int 26 0), (.str (.ofString "/claim/cut.py") 371)]) #[]
def ko151 (P : Params) : Obj := .mk (.type "function") none (.func (PySem.W.fnOf (.ofString "__init__") (.ofString "Missing.__init__") (defArgs (inClass (htop 10) 0)) (defBody (inClass (htop 10) 0)) (defScope (inClass (htop 10) 0)) .none .none .none (.str (.ofString "sheetback.errors") 187) none (.ref 150) .none)) #[]
def ko153 (P : Params) : Obj := .mk (.type "dict") none (.dict #[(.mk (PySem.PyData.keyHash P (.ofString "__module__")) (.str (.ofString "__module__") 360) (.str (.ofString "sheetback.errors") 187)), (.mk (PySem.PyData.keyHash P (.ofString "__firstlineno__")) (.str (.ofString "__firstlineno__") 364) (.int 24 363)), (.mk (PySem.PyData.keyHash P (.ofString "__init__")) (.str (.ofString "__init__") 372) (.ref 151)), (.mk (PySem.PyData.keyHash P (.ofString "__static_attributes__")) (.str (.ofString "__static_attributes__") 374) (.ref 152)), (.mk (PySem.PyData.keyHash P (.ofString "__doc__")) (.str (.ofString "__doc__") 375) .none)] 2) #[]
def ko154 (P : Params) : Obj := .mk (.type "type") none (.cls (.mk (.ofString "Missing") [(.ref 24)] [(.ref 154), (.ref 24), (.type "ValueError"), (.type "Exception"), (.type "BaseException"), (.type "object")] 153 (.ofString "Missing") true [] [] false none false)) #[(some (.ref 138)), none, (some (.str (.ofString "Missing") 353)), (some (.str (.ofString "Missing") 361)), (some (.builtin "ValueError.__new__")), (some (.bool true))]
def ko169 (P : Params) : Obj := .mk (.type "code") none (.fields #[(.str (.ofString "__init__") 390), (.str (.ofString "Clash.__init__") 391), (.str (.ofString "/claim/cut.py") 392), (.int 30 0), (.int 2 0), (.int 0 0), (.int 0 0), (.int 3 0), (.ref 164), (.bool true), (.int 181 0), (.ref 165), .none, (.ref 166), (.ref 167), (.ref 168), (.int 395 0), (.int 30 0), (.str (.ofString "/claim/cut.py") 396)]) #[]
def ko170 (P : Params) : Obj := .mk (.type "function") none (.func (PySem.W.fnOf (.ofString "__init__") (.ofString "Clash.__init__") (defArgs (inClass (htop 11) 0)) (defBody (inClass (htop 11) 0)) (defScope (inClass (htop 11) 0)) .none .none .none (.str (.ofString "sheetback.errors") 187) none (.ref 169) .none)) #[]
def ko172 (P : Params) : Obj := .mk (.type "dict") none (.dict #[(.mk (PySem.PyData.keyHash P (.ofString "__module__")) (.str (.ofString "__module__") 385) (.str (.ofString "sheetback.errors") 187)), (.mk (PySem.PyData.keyHash P (.ofString "__firstlineno__")) (.str (.ofString "__firstlineno__") 389) (.int 28 388)), (.mk (PySem.PyData.keyHash P (.ofString "__init__")) (.str (.ofString "__init__") 397) (.ref 170)), (.mk (PySem.PyData.keyHash P (.ofString "__static_attributes__")) (.str (.ofString "__static_attributes__") 399) (.ref 171)), (.mk (PySem.PyData.keyHash P (.ofString "__doc__")) (.str (.ofString "__doc__") 400) .none)] 2) #[]
def ko173 (P : Params) : Obj := .mk (.type "type") none (.cls (.mk (.ofString "Clash") [(.ref 24)] [(.ref 173), (.ref 24), (.type "ValueError"), (.type "Exception"), (.type "BaseException"), (.type "object")] 172 (.ofString "Clash") true [] [] false none false)) #[(some (.ref 157)), none, (some (.str (.ofString "Clash") 378)), (some (.str (.ofString "Clash") 386)), (some (.builtin "ValueError.__new__")), (some (.bool true))]
def ko188 (P : Params) : Obj := .mk (.type "code") none (.fields #[(.str (.ofString "__init__") 415), (.str (.ofString "NoSending.__init__") 416), (.str (.ofString "/claim/cut.py") 417), (.int 34 0), (.int 2 0), (.int 0 0), (.int 0 0), (.int 3 0), (.ref 183), (.bool true), (.int 181 0), (.ref 184), .none, (.ref 185), (.ref 186), (.ref 187), (.int 420 0), (.int 34 0), (.str (.ofString "/claim/cut.py") 421)]) #[]
def ko189 (P : Params) : Obj := .mk (.type "function") none (.func (PySem.W.fnOf (.ofString "__init__") (.ofString "NoSending.__init__") (defArgs (inClass (htop 12) 0)) (defBody (inClass (htop 12) 0)) (defScope (inClass (htop 12) 0)) .none .none .none (.str (.ofString "sheetback.errors") 187) none (.ref 188) .none)) #[]
def ko191 (P : Params) : Obj := .mk (.type "dict") none (.dict #[(.mk (PySem.PyData.keyHash P (.ofString "__module__")) (.str (.ofString "__module__") 410) (.str (.ofString "sheetback.errors") 187)), (.mk (PySem.PyData.keyHash P (.ofString "__firstlineno__")) (.str (.ofString "__firstlineno__") 414) (.int 32 413)), (.mk (PySem.PyData.keyHash P (.ofString "__init__")) (.str (.ofString "__init__") 422) (.ref 189)), (.mk (PySem.PyData.keyHash P (.ofString "__static_attributes__")) (.str (.ofString "__static_attributes__") 424) (.ref 190)), (.mk (PySem.PyData.keyHash P (.ofString "__doc__")) (.str (.ofString "__doc__") 425) .none)] 2) #[]
def ko192 (P : Params) : Obj := .mk (.type "type") none (.cls (.mk (.ofString "NoSending") [(.ref 24)] [(.ref 192), (.ref 24), (.type "ValueError"), (.type "Exception"), (.type "BaseException"), (.type "object")] 191 (.ofString "NoSending") true [] [] false none false)) #[(some (.ref 176)), none, (some (.str (.ofString "NoSending") 403)), (some (.str (.ofString "NoSending") 411)), (some (.builtin "ValueError.__new__")), (some (.bool true))]
def ko207 (P : Params) : Obj := .mk (.type "code") none (.fields #[(.str (.ofString "__init__") 440), (.str (.ofString "NoJoining.__init__") 441), (.str (.ofString "/claim/cut.py") 442), (.int 38 0), (.int 2 0), (.int 0 0), (.int 0 0), (.int 3 0), (.ref 202), (.bool true), (.int 181 0), (.ref 203), .none, (.ref 204), (.ref 205), (.ref 206), (.int 445 0), (.int 38 0), (.str (.ofString "/claim/cut.py") 446)]) #[]
def ko208 (P : Params) : Obj := .mk (.type "function") none (.func (PySem.W.fnOf (.ofString "__init__") (.ofString "NoJoining.__init__") (defArgs (inClass (htop 13) 0)) (defBody (inClass (htop 13) 0)) (defScope (inClass (htop 13) 0)) .none .none .none (.str (.ofString "sheetback.errors") 187) none (.ref 207) .none)) #[]
def ko210 (P : Params) : Obj := .mk (.type "dict") none (.dict #[(.mk (PySem.PyData.keyHash P (.ofString "__module__")) (.str (.ofString "__module__") 435) (.str (.ofString "sheetback.errors") 187)), (.mk (PySem.PyData.keyHash P (.ofString "__firstlineno__")) (.str (.ofString "__firstlineno__") 439) (.int 36 438)), (.mk (PySem.PyData.keyHash P (.ofString "__init__")) (.str (.ofString "__init__") 447) (.ref 208)), (.mk (PySem.PyData.keyHash P (.ofString "__static_attributes__")) (.str (.ofString "__static_attributes__") 449) (.ref 209)), (.mk (PySem.PyData.keyHash P (.ofString "__doc__")) (.str (.ofString "__doc__") 450) .none)] 2) #[]
def ko211 (P : Params) : Obj := .mk (.type "type") none (.cls (.mk (.ofString "NoJoining") [(.ref 24)] [(.ref 211), (.ref 24), (.type "ValueError"), (.type "Exception"), (.type "BaseException"), (.type "object")] 210 (.ofString "NoJoining") true [] [] false none false)) #[(some (.ref 195)), none, (some (.str (.ofString "NoJoining") 428)), (some (.str (.ofString "NoJoining") 436)), (some (.builtin "ValueError.__new__")), (some (.bool true))]
def ko226 (P : Params) : Obj := .mk (.type "code") none (.fields #[(.str (.ofString "__init__") 465), (.str (.ofString "NoMeanwhile.__init__") 466), (.str (.ofString "/claim/cut.py") 467), (.int 42 0), (.int 2 0), (.int 0 0), (.int 0 0), (.int 3 0), (.ref 221), (.bool true), (.int 181 0), (.ref 222), .none, (.ref 223), (.ref 224), (.ref 225), (.int 470 0), (.int 42 0), (.str (.ofString "/claim/cut.py") 471)]) #[]
def ko227 (P : Params) : Obj := .mk (.type "function") none (.func (PySem.W.fnOf (.ofString "__init__") (.ofString "NoMeanwhile.__init__") (defArgs (inClass (htop 14) 0)) (defBody (inClass (htop 14) 0)) (defScope (inClass (htop 14) 0)) .none .none .none (.str (.ofString "sheetback.errors") 187) none (.ref 226) .none)) #[]
def ko229 (P : Params) : Obj := .mk (.type "dict") none (.dict #[(.mk (PySem.PyData.keyHash P (.ofString "__module__")) (.str (.ofString "__module__") 460) (.str (.ofString "sheetback.errors") 187)), (.mk (PySem.PyData.keyHash P (.ofString "__firstlineno__")) (.str (.ofString "__firstlineno__") 464) (.int 40 463)), (.mk (PySem.PyData.keyHash P (.ofString "__init__")) (.str (.ofString "__init__") 472) (.ref 227)), (.mk (PySem.PyData.keyHash P (.ofString "__static_attributes__")) (.str (.ofString "__static_attributes__") 474) (.ref 228)), (.mk (PySem.PyData.keyHash P (.ofString "__doc__")) (.str (.ofString "__doc__") 475) .none)] 2) #[]
def ko230 (P : Params) : Obj := .mk (.type "type") none (.cls (.mk (.ofString "NoMeanwhile") [(.ref 24)] [(.ref 230), (.ref 24), (.type "ValueError"), (.type "Exception"), (.type "BaseException"), (.type "object")] 229 (.ofString "NoMeanwhile") true [] [] false none false)) #[(some (.ref 214)), none, (some (.str (.ofString "NoMeanwhile") 453)), (some (.str (.ofString "NoMeanwhile") 461)), (some (.builtin "ValueError.__new__")), (some (.bool true))]
def ko245 (P : Params) : Obj := .mk (.type "code") none (.fields #[(.str (.ofString "__init__") 490), (.str (.ofString "NoLine.__init__") 491), (.str (.ofString "/claim/cut.py") 492), (.int 46 0), (.int 2 0), (.int 0 0), (.int 0 0), (.int 3 0), (.ref 240), (.bool true), (.int 181 0), (.ref 241), .none, (.ref 242), (.ref 243), (.ref 244), (.int 495 0), (.int 46 0), (.str (.ofString "/claim/cut.py") 496)]) #[]
def ko246 (P : Params) : Obj := .mk (.type "function") none (.func (PySem.W.fnOf (.ofString "__init__") (.ofString "NoLine.__init__") (defArgs (inClass (htop 15) 0)) (defBody (inClass (htop 15) 0)) (defScope (inClass (htop 15) 0)) .none .none .none (.str (.ofString "sheetback.errors") 187) none (.ref 245) .none)) #[]
def ko248 (P : Params) : Obj := .mk (.type "dict") none (.dict #[(.mk (PySem.PyData.keyHash P (.ofString "__module__")) (.str (.ofString "__module__") 485) (.str (.ofString "sheetback.errors") 187)), (.mk (PySem.PyData.keyHash P (.ofString "__firstlineno__")) (.str (.ofString "__firstlineno__") 489) (.int 44 488)), (.mk (PySem.PyData.keyHash P (.ofString "__init__")) (.str (.ofString "__init__") 497) (.ref 246)), (.mk (PySem.PyData.keyHash P (.ofString "__static_attributes__")) (.str (.ofString "__static_attributes__") 499) (.ref 247)), (.mk (PySem.PyData.keyHash P (.ofString "__doc__")) (.str (.ofString "__doc__") 500) .none)] 2) #[]
def ko249 (P : Params) : Obj := .mk (.type "type") none (.cls (.mk (.ofString "NoLine") [(.ref 24)] [(.ref 249), (.ref 24), (.type "ValueError"), (.type "Exception"), (.type "BaseException"), (.type "object")] 248 (.ofString "NoLine") true [] [] false none false)) #[(some (.ref 233)), none, (some (.str (.ofString "NoLine") 478)), (some (.str (.ofString "NoLine") 486)), (some (.builtin "ValueError.__new__")), (some (.bool true))]
def ko264 (P : Params) : Obj := .mk (.type "code") none (.fields #[(.str (.ofString "__init__") 515), (.str (.ofString "NoCells.__init__") 516), (.str (.ofString "/claim/cut.py") 517), (.int 50 0), (.int 2 0), (.int 0 0), (.int 0 0), (.int 3 0), (.ref 259), (.bool true), (.int 181 0), (.ref 260), .none, (.ref 261), (.ref 262), (.ref 263), (.int 520 0), (.int 50 0), (.str (.ofString "/claim/cut.py") 521)]) #[]
def ko265 (P : Params) : Obj := .mk (.type "function") none (.func (PySem.W.fnOf (.ofString "__init__") (.ofString "NoCells.__init__") (defArgs (inClass (htop 16) 0)) (defBody (inClass (htop 16) 0)) (defScope (inClass (htop 16) 0)) .none .none .none (.str (.ofString "sheetback.errors") 187) none (.ref 264) .none)) #[]
def ko267 (P : Params) : Obj := .mk (.type "dict") none (.dict #[(.mk (PySem.PyData.keyHash P (.ofString "__module__")) (.str (.ofString "__module__") 510) (.str (.ofString "sheetback.errors") 187)), (.mk (PySem.PyData.keyHash P (.ofString "__firstlineno__")) (.str (.ofString "__firstlineno__") 514) (.int 48 513)), (.mk (PySem.PyData.keyHash P (.ofString "__init__")) (.str (.ofString "__init__") 522) (.ref 265)), (.mk (PySem.PyData.keyHash P (.ofString "__static_attributes__")) (.str (.ofString "__static_attributes__") 524) (.ref 266)), (.mk (PySem.PyData.keyHash P (.ofString "__doc__")) (.str (.ofString "__doc__") 525) .none)] 2) #[]
def ko268 (P : Params) : Obj := .mk (.type "type") none (.cls (.mk (.ofString "NoCells") [(.ref 24)] [(.ref 268), (.ref 24), (.type "ValueError"), (.type "Exception"), (.type "BaseException"), (.type "object")] 267 (.ofString "NoCells") true [] [] false none false)) #[(some (.ref 252)), none, (some (.str (.ofString "NoCells") 503)), (some (.str (.ofString "NoCells") 511)), (some (.builtin "ValueError.__new__")), (some (.bool true))]
def ko283 (P : Params) : Obj := .mk (.type "code") none (.fields #[(.str (.ofString "__init__") 540), (.str (.ofString "Refused.__init__") 541), (.str (.ofString "/claim/cut.py") 542), (.int 54 0), (.int 3 0), (.int 0 0), (.int 0 0), (.int 3 0), (.ref 278), (.bool true), (.int 181 0), (.ref 279), .none, (.ref 280), (.ref 281), (.ref 282), (.int 546 0), (.int 54 0), (.str (.ofString "/claim/cut.py") 547)]) #[]
def ko284 (P : Params) : Obj := .mk (.type "function") none (.func (PySem.W.fnOf (.ofString "__init__") (.ofString "Refused.__init__") (defArgs (inClass (htop 17) 0)) (defBody (inClass (htop 17) 0)) (defScope (inClass (htop 17) 0)) .none .none .none (.str (.ofString "sheetback.errors") 187) none (.ref 283) .none)) #[]
def ko286 (P : Params) : Obj := .mk (.type "dict") none (.dict #[(.mk (PySem.PyData.keyHash P (.ofString "__module__")) (.str (.ofString "__module__") 535) (.str (.ofString "sheetback.errors") 187)), (.mk (PySem.PyData.keyHash P (.ofString "__firstlineno__")) (.str (.ofString "__firstlineno__") 539) (.int 52 538)), (.mk (PySem.PyData.keyHash P (.ofString "__init__")) (.str (.ofString "__init__") 548) (.ref 284)), (.mk (PySem.PyData.keyHash P (.ofString "__static_attributes__")) (.str (.ofString "__static_attributes__") 551) (.ref 285)), (.mk (PySem.PyData.keyHash P (.ofString "__doc__")) (.str (.ofString "__doc__") 552) .none)] 2) #[]
def ko287 (P : Params) : Obj := .mk (.type "type") none (.cls (.mk (.ofString "Refused") [(.ref 24)] [(.ref 287), (.ref 24), (.type "ValueError"), (.type "Exception"), (.type "BaseException"), (.type "object")] 286 (.ofString "Refused") true [] [] false none false)) #[(some (.ref 271)), none, (some (.str (.ofString "Refused") 528)), (some (.str (.ofString "Refused") 536)), (some (.builtin "ValueError.__new__")), (some (.bool true))]
def ko302 (P : Params) : Obj := .mk (.type "code") none (.fields #[(.str (.ofString "__init__") 567), (.str (.ofString "NoText.__init__") 568), (.str (.ofString "/claim/cut.py") 569), (.int 59 0), (.int 2 0), (.int 0 0), (.int 0 0), (.int 3 0), (.ref 297), (.bool true), (.int 181 0), (.ref 298), .none, (.ref 299), (.ref 300), (.ref 301), (.int 572 0), (.int 59 0), (.str (.ofString "/claim/cut.py") 573)]) #[]
def ko303 (P : Params) : Obj := .mk (.type "function") none (.func (PySem.W.fnOf (.ofString "__init__") (.ofString "NoText.__init__") (defArgs (inClass (htop 18) 0)) (defBody (inClass (htop 18) 0)) (defScope (inClass (htop 18) 0)) .none .none .none (.str (.ofString "sheetback.errors") 187) none (.ref 302) .none)) #[]
def ko305 (P : Params) : Obj := .mk (.type "dict") none (.dict #[(.mk (PySem.PyData.keyHash P (.ofString "__module__")) (.str (.ofString "__module__") 562) (.str (.ofString "sheetback.errors") 187)), (.mk (PySem.PyData.keyHash P (.ofString "__firstlineno__")) (.str (.ofString "__firstlineno__") 566) (.int 57 565)), (.mk (PySem.PyData.keyHash P (.ofString "__init__")) (.str (.ofString "__init__") 574) (.ref 303)), (.mk (PySem.PyData.keyHash P (.ofString "__static_attributes__")) (.str (.ofString "__static_attributes__") 576) (.ref 304)), (.mk (PySem.PyData.keyHash P (.ofString "__doc__")) (.str (.ofString "__doc__") 577) .none)] 2) #[]
def ko306 (P : Params) : Obj := .mk (.type "type") none (.cls (.mk (.ofString "NoText") [(.ref 24)] [(.ref 306), (.ref 24), (.type "ValueError"), (.type "Exception"), (.type "BaseException"), (.type "object")] 305 (.ofString "NoText") true [] [] false none false)) #[(some (.ref 290)), none, (some (.str (.ofString "NoText") 555)), (some (.str (.ofString "NoText") 563)), (some (.builtin "ValueError.__new__")), (some (.bool true))]
def ko321 (P : Params) : Obj := .mk (.type "code") none (.fields #[(.str (.ofString "__init__") 592), (.str (.ofString "NoName.__init__") 593), (.str (.ofString "/claim/cut.py") 594), (.int 63 0), (.int 2 0), (.int 0 0), (.int 0 0), (.int 3 0), (.ref 316), (.bool true), (.int 181 0), (.ref 317), .none, (.ref 318), (.ref 319), (.ref 320), (.int 597 0), (.int 63 0), (.str (.ofString "/claim/cut.py") 598)]) #[]
def ko322 (P : Params) : Obj := .mk (.type "function") none (.func (PySem.W.fnOf (.ofString "__init__") (.ofString "NoName.__init__") (defArgs (inClass (htop 19) 0)) (defBody (inClass (htop 19) 0)) (defScope (inClass (htop 19) 0)) .none .none .none (.str (.ofString "sheetback.errors") 187) none (.ref 321) .none)) #[]
def ko324 (P : Params) : Obj := .mk (.type "dict") none (.dict #[(.mk (PySem.PyData.keyHash P (.ofString "__module__")) (.str (.ofString "__module__") 587) (.str (.ofString "sheetback.errors") 187)), (.mk (PySem.PyData.keyHash P (.ofString "__firstlineno__")) (.str (.ofString "__firstlineno__") 591) (.int 61 590)), (.mk (PySem.PyData.keyHash P (.ofString "__init__")) (.str (.ofString "__init__") 599) (.ref 322)), (.mk (PySem.PyData.keyHash P (.ofString "__static_attributes__")) (.str (.ofString "__static_attributes__") 601) (.ref 323)), (.mk (PySem.PyData.keyHash P (.ofString "__doc__")) (.str (.ofString "__doc__") 602) .none)] 2) #[]
def ko325 (P : Params) : Obj := .mk (.type "type") none (.cls (.mk (.ofString "NoName") [(.ref 24)] [(.ref 325), (.ref 24), (.type "ValueError"), (.type "Exception"), (.type "BaseException"), (.type "object")] 324 (.ofString "NoName") true [] [] false none false)) #[(some (.ref 309)), none, (some (.str (.ofString "NoName") 580)), (some (.str (.ofString "NoName") 588)), (some (.builtin "ValueError.__new__")), (some (.bool true))]
def ko340 (P : Params) : Obj := .mk (.type "code") none (.fields #[(.str (.ofString "__init__") 617), (.str (.ofString "NoLimit.__init__") 618), (.str (.ofString "/claim/cut.py") 619), (.int 67 0), (.int 2 0), (.int 0 0), (.int 0 0), (.int 3 0), (.ref 335), (.bool true), (.int 181 0), (.ref 336), .none, (.ref 337), (.ref 338), (.ref 339), (.int 622 0), (.int 67 0), (.str (.ofString "/claim/cut.py") 623)]) #[]
def ko341 (P : Params) : Obj := .mk (.type "function") none (.func (PySem.W.fnOf (.ofString "__init__") (.ofString "NoLimit.__init__") (defArgs (inClass (htop 20) 0)) (defBody (inClass (htop 20) 0)) (defScope (inClass (htop 20) 0)) .none .none .none (.str (.ofString "sheetback.errors") 187) none (.ref 340) .none)) #[]
def ko343 (P : Params) : Obj := .mk (.type "dict") none (.dict #[(.mk (PySem.PyData.keyHash P (.ofString "__module__")) (.str (.ofString "__module__") 612) (.str (.ofString "sheetback.errors") 187)), (.mk (PySem.PyData.keyHash P (.ofString "__firstlineno__")) (.str (.ofString "__firstlineno__") 616) (.int 65 615)), (.mk (PySem.PyData.keyHash P (.ofString "__init__")) (.str (.ofString "__init__") 624) (.ref 341)), (.mk (PySem.PyData.keyHash P (.ofString "__static_attributes__")) (.str (.ofString "__static_attributes__") 626) (.ref 342)), (.mk (PySem.PyData.keyHash P (.ofString "__doc__")) (.str (.ofString "__doc__") 627) .none)] 2) #[]
def ko344 (P : Params) : Obj := .mk (.type "type") none (.cls (.mk (.ofString "NoLimit") [(.ref 24)] [(.ref 344), (.ref 24), (.type "ValueError"), (.type "Exception"), (.type "BaseException"), (.type "object")] 343 (.ofString "NoLimit") true [] [] false none false)) #[(some (.ref 328)), none, (some (.str (.ofString "NoLimit") 605)), (some (.str (.ofString "NoLimit") 613)), (some (.builtin "ValueError.__new__")), (some (.bool true))]
def ko359 (P : Params) : Obj := .mk (.type "code") none (.fields #[(.str (.ofString "__init__") 642), (.str (.ofString "Full.__init__") 643), (.str (.ofString "/claim/cut.py") 644), (.int 71 0), (.int 2 0), (.int 0 0), (.int 0 0), (.int 3 0), (.ref 354), (.bool true), (.int 181 0), (.ref 355), .none, (.ref 356), (.ref 357), (.ref 358), (.int 647 0), (.int 71 0), (.str (.ofString "/claim/cut.py") 648)]) #[]
def ko360 (P : Params) : Obj := .mk (.type "function") none (.func (PySem.W.fnOf (.ofString "__init__") (.ofString "Full.__init__") (defArgs (inClass (htop 21) 0)) (defBody (inClass (htop 21) 0)) (defScope (inClass (htop 21) 0)) .none .none .none (.str (.ofString "sheetback.errors") 187) none (.ref 359) .none)) #[]
def ko362 (P : Params) : Obj := .mk (.type "dict") none (.dict #[(.mk (PySem.PyData.keyHash P (.ofString "__module__")) (.str (.ofString "__module__") 637) (.str (.ofString "sheetback.errors") 187)), (.mk (PySem.PyData.keyHash P (.ofString "__firstlineno__")) (.str (.ofString "__firstlineno__") 641) (.int 69 640)), (.mk (PySem.PyData.keyHash P (.ofString "__init__")) (.str (.ofString "__init__") 649) (.ref 360)), (.mk (PySem.PyData.keyHash P (.ofString "__static_attributes__")) (.str (.ofString "__static_attributes__") 651) (.ref 361)), (.mk (PySem.PyData.keyHash P (.ofString "__doc__")) (.str (.ofString "__doc__") 652) .none)] 2) #[]
def ko363 (P : Params) : Obj := .mk (.type "type") none (.cls (.mk (.ofString "Full") [(.ref 24)] [(.ref 363), (.ref 24), (.type "ValueError"), (.type "Exception"), (.type "BaseException"), (.type "object")] 362 (.ofString "Full") true [] [] false none false)) #[(some (.ref 347)), none, (some (.str (.ofString "Full") 630)), (some (.str (.ofString "Full") 638)), (some (.builtin "ValueError.__new__")), (some (.bool true))]
def ko371 (P : Params) : Obj := .mk (.type "code") none (.fields #[(.str (.ofString "_law_spool") 657), (.str (.ofString "_law_spool") 658), (.str (.ofString "/claim/cut.py") 659), (.int 74 0), (.int 2 0), (.int 0 0), (.int 0 0), (.int 3 0), (.ref 366), (.bool true), (.int 181 0), (.ref 367), .none, (.ref 368), (.ref 369), (.ref 370), (.int 663 0), (.int 74 0), (.str (.ofString "/claim/cut.py") 664)]) #[]
def ko372 (P : Params) : Obj := .mk (.type "function") none (.func (PySem.W.fnOf (.ofString "_law_spool") (.ofString "_law_spool") (defArgs (htop 23)) (defBody (htop 23)) (defScope (htop 23)) .none .none .none (.str (.ofString "law_sheetback_k00_error_classes") 655) none (.ref 371) .none)) #[]
def ko378 (P : Params) : Obj := .mk (.type "code") none (.fields #[(.str (.ofString "_law_pull") 666), (.str (.ofString "_law_pull") 667), (.str (.ofString "/claim/cut.py") 668), (.int 77 0), (.int 2 0), (.int 0 0), (.int 0 0), (.int 3 0), (.ref 373), (.bool true), (.int 181 0), (.ref 374), .none, (.ref 375), (.ref 376), (.ref 377), (.int 673 0), (.int 77 0), (.str (.ofString "/claim/cut.py") 674)]) #[]
def ko379 (P : Params) : Obj := .mk (.type "function") none (.func (PySem.W.fnOf (.ofString "_law_pull") (.ofString "_law_pull") (defArgs (htop 24)) (defBody (htop 24)) (defScope (htop 24)) .none .none .none (.str (.ofString "law_sheetback_k00_error_classes") 655) none (.ref 378) .none)) #[]
def ko383 (P : Params) : Obj := .mk (.type "code") none (.fields #[(.str (.ofString "_law_like") 676), (.str (.ofString "_law_like") 677), (.str (.ofString "/claim/cut.py") 678), (.int 87 0), (.int 2 0), (.int 0 0), (.int 0 0), (.int 3 0), (.ref 380), (.bool true), (.int 181 0), (.ref 381), .none, .none, .none, (.ref 382), (.int 679 0), (.int 87 0), (.str (.ofString "/claim/cut.py") 680)]) #[]
def ko384 (P : Params) : Obj := .mk (.type "function") none (.func (PySem.W.fnOf (.ofString "_law_like") (.ofString "_law_like") (defArgs (htop 25)) (defBody (htop 25)) (defScope (htop 25)) .none .none .none (.str (.ofString "law_sheetback_k00_error_classes") 655) none (.ref 383) .none)) #[]
def ko390 (P : Params) : Obj := .mk (.type "code") none (.fields #[(.str (.ofString "_law_raise_some") 682), (.str (.ofString "_law_raise_some") 683), (.str (.ofString "/claim/cut.py") 684), (.int 99 0), (.int 3 0), (.int 0 0), (.int 0 0), (.int 3 0), (.ref 385), (.bool true), (.int 181 0), (.ref 386), .none, (.ref 387), (.ref 388), (.ref 389), (.int 688 0), (.int 99 0), (.str (.ofString "/claim/cut.py") 689)]) #[]
def ko391 (P : Params) : Obj := .mk (.type "function") none (.func (PySem.W.fnOf (.ofString "_law_raise_some") (.ofString "_law_raise_some") (defArgs (htop 26)) (defBody (htop 26)) (defScope (htop 26)) .none .none .none (.str (.ofString "law_sheetback_k00_error_classes") 655) none (.ref 390) .none)) #[]
def ko397 (P : Params) : Obj := .mk (.type "code") none (.fields #[(.str (.ofString "_law_raise_more") 691), (.str (.ofString "_law_raise_more") 692), (.str (.ofString "/claim/cut.py") 693), (.int 123 0), (.int 3 0), (.int 0 0), (.int 0 0), (.int 3 0), (.ref 392), (.bool true), (.int 181 0), (.ref 393), .none, (.ref 394), (.ref 395), (.ref 396), (.int 697 0), (.int 123 0), (.str (.ofString "/claim/cut.py") 698)]) #[]
def ko398 (P : Params) : Obj := .mk (.type "function") none (.func (PySem.W.fnOf (.ofString "_law_raise_more") (.ofString "_law_raise_more") (defArgs (htop 27)) (defBody (htop 27)) (defScope (htop 27)) .none .none .none (.str (.ofString "law_sheetback_k00_error_classes") 655) none (.ref 397) .none)) #[]
def ko404 (P : Params) : Obj := .mk (.type "code") none (.fields #[(.str (.ofString "_law_marks") 700), (.str (.ofString "_law_marks") 701), (.str (.ofString "/claim/cut.py") 702), (.int 143 0), (.int 1 0), (.int 0 0), (.int 0 0), (.int 3 0), (.ref 399), (.bool true), (.int 181 0), (.ref 400), .none, (.ref 401), (.ref 402), (.ref 403), (.int 705 0), (.int 143 0), (.str (.ofString "/claim/cut.py") 706)]) #[]
def ko405 (P : Params) : Obj := .mk (.type "function") none (.func (PySem.W.fnOf (.ofString "_law_marks") (.ofString "_law_marks") (defArgs (htop 28)) (defBody (htop 28)) (defScope (htop 28)) .none .none .none (.str (.ofString "law_sheetback_k00_error_classes") 655) none (.ref 404) .none)) #[]
def ko411 (P : Params) : Obj := .mk (.type "code") none (.fields #[(.str (.ofString "_law_fields_seen") 708), (.str (.ofString "_law_fields_seen") 709), (.str (.ofString "/claim/cut.py") 710), (.int 149 0), (.int 3 0), (.int 0 0), (.int 0 0), (.int 3 0), (.ref 406), (.bool true), (.int 181 0), (.ref 407), .none, (.ref 408), (.ref 409), (.ref 410), (.int 716 0), (.int 149 0), (.str (.ofString "/claim/cut.py") 717)]) #[]
def ko412 (P : Params) : Obj := .mk (.type "function") none (.func (PySem.W.fnOf (.ofString "_law_fields_seen") (.ofString "_law_fields_seen") (defArgs (htop 29)) (defBody (htop 29)) (defScope (htop 29)) .none .none .none (.str (.ofString "law_sheetback_k00_error_classes") 655) none (.ref 411) .none)) #[]
def ko416 (P : Params) : Obj := .mk (.type "code") none (.fields #[(.str (.ofString "_law_thing") 719), (.str (.ofString "_law_thing") 720), (.str (.ofString "/claim/cut.py") 721), (.int 184 0), (.int 1 0), (.int 0 0), (.int 0 0), (.int 3 0), (.ref 413), (.bool true), (.int 181 0), (.ref 414), .none, .none, .none, (.ref 415), (.int 722 0), (.int 184 0), (.str (.ofString "/claim/cut.py") 723)]) #[]
def ko417 (P : Params) : Obj := .mk (.type "function") none (.func (PySem.W.fnOf (.ofString "_law_thing") (.ofString "_law_thing") (defArgs (htop 30)) (defBody (htop 30)) (defScope (htop 30)) .none .none .none (.str (.ofString "law_sheetback_k00_error_classes") 655) none (.ref 416) .none)) #[]
def ko421 (P : Params) : Obj := .mk (.type "code") none (.fields #[(.str (.ofString "_law_way_right") 725), (.str (.ofString "_law_way_right") 726), (.str (.ofString "/claim/cut.py") 727), (.int 188 0), (.int 3 0), (.int 0 0), (.int 0 0), (.int 3 0), (.ref 418), (.bool true), (.int 181 0), (.ref 419), .none, .none, .none, (.ref 420), (.int 728 0), (.int 188 0), (.str (.ofString "/claim/cut.py") 729)]) #[]
def ko422 (P : Params) : Obj := .mk (.type "function") none (.func (PySem.W.fnOf (.ofString "_law_way_right") (.ofString "_law_way_right") (defArgs (htop 31)) (defBody (htop 31)) (defScope (htop 31)) .none .none .none (.str (.ofString "law_sheetback_k00_error_classes") 655) none (.ref 421) .none)) #[]
def ko426 (P : Params) : Obj := .mk (.type "code") none (.fields #[(.str (.ofString "law") 731), (.str (.ofString "law") 732), (.str (.ofString "/claim/cut.py") 733), (.int 199 0), (.int 1 0), (.int 0 0), (.int 0 0), (.int 3 0), (.ref 423), (.bool true), (.int 181 0), (.ref 424), .none, .none, .none, (.ref 425), (.int 734 0), (.int 199 0), (.str (.ofString "/claim/cut.py") 735)]) #[]
def ko427 (P : Params) : Obj := .mk (.type "function") none (.func (PySem.W.fnOf (.ofString "law") (.ofString "law") (defArgs (htop 32)) (defBody (htop 32)) (defScope (htop 32)) .none .none .none (.str (.ofString "law_sheetback_k00_error_classes") 655) none (.ref 426) .none)) #[]
def K0 (P : Params) : PySem.W.Frag := (nat_lit 2, ko2 P) :: (nat_lit 3, ko3 P) :: (nat_lit 23, ko23 P) :: (nat_lit 24, ko24 P) :: (nat_lit 36, ko36 P) :: (nat_lit 37, ko37 P) :: (nat_lit 48, ko48 P) :: (nat_lit 49, ko49 P) :: (nat_lit 60, ko60 P) :: (nat_lit 61, ko61 P) :: (nat_lit 72, ko72 P) :: (nat_lit 73, ko73 P) :: (nat_lit 84, ko84 P) :: (nat_lit 85, ko85 P) :: (nat_lit 96, ko96 P) :: (nat_lit 97, ko97 P) :: (nat_lit 112, ko112 P) :: (nat_lit 113, ko113 P) :: (nat_lit 115, ko115 P) :: (nat_lit 116, ko116 P) :: (nat_lit 131, ko131 P) :: (nat_lit 132, ko132 P) :: (nat_lit 134, ko134 P) :: (nat_lit 135, ko135 P) :: (nat_lit 150, ko150 P) :: (nat_lit 151, ko151 P) :: (nat_lit 153, ko153 P) :: (nat_lit 154, ko154 P) :: (nat_lit 169, ko169 P) :: (nat_lit 170, ko170 P) :: (nat_lit 172, ko172 P) :: (nat_lit 173, ko173 P) :: (nat_lit 188, ko188 P) :: (nat_lit 189, ko189 P) :: (nat_lit 191, ko191 P) :: (nat_lit 192, ko192 P) :: (nat_lit 207, ko207 P) :: (nat_lit 208, ko208 P) :: (nat_lit 210, ko210 P) :: (nat_lit 211, ko211 P) :: (nat_lit 226, ko226 P) :: (nat_lit 227, ko227 P) :: (nat_lit 229, ko229 P) :: (nat_lit 230, ko230 P) :: (nat_lit 245, ko245 P) :: (nat_lit 246, ko246 P) :: (nat_lit 248, ko248 P) :: (nat_lit 249, ko249 P) :: (nat_lit 264, ko264 P) :: (nat_lit 265, ko265 P) :: (nat_lit 267, ko267 P) :: (nat_lit 268, ko268 P) :: (nat_lit 283, ko283 P) :: (nat_lit 284, ko284 P) :: (nat_lit 286, ko286 P) :: (nat_lit 287, ko287 P) :: (nat_lit 302, ko302 P) :: (nat_lit 303, ko303 P) :: (nat_lit 305, ko305 P) :: (nat_lit 306, ko306 P) :: (nat_lit 321, ko321 P) :: (nat_lit 322, ko322 P) :: (nat_lit 324, ko324 P) :: (nat_lit 325, ko325 P) :: (nat_lit 340, ko340 P) :: (nat_lit 341, ko341 P) :: (nat_lit 343, ko343 P) :: (nat_lit 344, ko344 P) :: (nat_lit 359, ko359 P) :: (nat_lit 360, ko360 P) :: (nat_lit 362, ko362 P) :: (nat_lit 363, ko363 P) :: (nat_lit 371, ko371 P) :: (nat_lit 372, ko372 P) :: (nat_lit 378, ko378 P) :: (nat_lit 379, ko379 P) :: (nat_lit 383, ko383 P) :: (nat_lit 384, ko384 P) :: (nat_lit 390, ko390 P) :: (nat_lit 391, ko391 P) :: (nat_lit 397, ko397 P) :: (nat_lit 398, ko398 P) :: (nat_lit 404, ko404 P) :: (nat_lit 405, ko405 P) :: (nat_lit 411, ko411 P) :: (nat_lit 412, ko412 P) :: (nat_lit 416, ko416 P) :: (nat_lit 417, ko417 P) :: (nat_lit 421, ko421 P) :: (nat_lit 422, ko422 P) :: (nat_lit 426, ko426 P) :: (nat_lit 427, ko427 P) :: []
abbrev A0 : List Nat := nat_lit 2 :: nat_lit 3 :: nat_lit 23 :: nat_lit 24 :: nat_lit 36 :: nat_lit 37 :: nat_lit 48 :: nat_lit 49 :: nat_lit 60 :: nat_lit 61 :: nat_lit 72 :: nat_lit 73 :: nat_lit 84 :: nat_lit 85 :: nat_lit 96 :: nat_lit 97 :: nat_lit 112 :: nat_lit 113 :: nat_lit 115 :: nat_lit 116 :: nat_lit 131 :: nat_lit 132 :: nat_lit 134 :: nat_lit 135 :: nat_lit 150 :: nat_lit 151 :: nat_lit 153 :: nat_lit 154 :: nat_lit 169 :: nat_lit 170 :: nat_lit 172 :: nat_lit 173 :: nat_lit 188 :: nat_lit 189 :: nat_lit 191 :: nat_lit 192 :: nat_lit 207 :: nat_lit 208 :: nat_lit 210 :: nat_lit 211 :: nat_lit 226 :: nat_lit 227 :: nat_lit 229 :: nat_lit 230 :: nat_lit 245 :: nat_lit 246 :: nat_lit 248 :: nat_lit 249 :: nat_lit 264 :: nat_lit 265 :: nat_lit 267 :: nat_lit 268 :: nat_lit 283 :: nat_lit 284 :: nat_lit 286 :: nat_lit 287 :: nat_lit 302 :: nat_lit 303 :: nat_lit 305 :: nat_lit 306 :: nat_lit 321 :: nat_lit 322 :: nat_lit 324 :: nat_lit 325 :: nat_lit 340 :: nat_lit 341 :: nat_lit 343 :: nat_lit 344 :: nat_lit 359 :: nat_lit 360 :: nat_lit 362 :: nat_lit 363 :: nat_lit 371 :: nat_lit 372 :: nat_lit 378 :: nat_lit 379 :: nat_lit 383 :: nat_lit 384 :: nat_lit 390 :: nat_lit 391 :: nat_lit 397 :: nat_lit 398 :: nat_lit 404 :: nat_lit 405 :: nat_lit 411 :: nat_lit 412 :: nat_lit 416 :: nat_lit 417 :: nat_lit 421 :: nat_lit 422 :: nat_lit 426 :: nat_lit 427 :: []
def viewq : Program := { PySem.Challenge.pw_sheetback_k00_error_classes with main := { PySem.Challenge.pw_sheetback_k00_error_classes.main with body := htop 1 :: htop 2 :: htop 3 :: htop 4 :: htop 5 :: htop 6 :: htop 7 :: htop 8 :: htop 9 :: htop 10 :: htop 11 :: htop 12 :: htop 13 :: htop 14 :: htop 15 :: htop 16 :: htop 17 :: htop 18 :: htop 19 :: htop 20 :: htop 21 :: htop 23 :: htop 24 :: htop 25 :: htop 26 :: htop 27 :: htop 28 :: htop 29 :: htop 30 :: htop 31 :: htop 32 :: [] } }
def loose : List PySem.Str :=  []
def readc : List (PySem.Str × WData) :=  []
def lawd : DefRec := { name := (PySem.Str.ofString "law"), params := defArgs (htop 32), body := defBody (htop 32), scope := defScope (htop 32), pos := ⟨199, 0, 204, 15⟩ }
abbrev hk := PySem.W.kHook K0 A0 (fun _ => rfl)
def HC : Prop := WalkO viewq loose (XL viewq readc) (PySem.W.Hook.says hk) PySem.Challenge.rw_sheetback_k00_error_classes.row.toRowW lawd [] (fun f vs => PySem.call f vs)
theorem left : LeftO PySem.Challenge.rw_sheetback_k00_error_classes.row.toRowW.prog viewq loose (fun s => xlAt viewq readc s && recOk (RowW.records PySem.Challenge.rw_sheetback_k00_error_classes.row.toRowW) s) (PySem.W.Hook.obs hk) (PySem.W.Hook.val hk) 11238 true := by
  refine HeadRun.left_oneK (M := 10538) (by kernel_rfl) (by rfl) (fun s => by kernel_rfl) (by rfl) ?_
  intro w os; kernel_rfl
theorem headed (hc : HC) : PySem.Challenge.rw_sheetback_k00_error_classes.Holds := by
  w_on; o_law
  refine holds_open (q := viewq) (loose := loose) (Xt := fun s => xlAt viewq readc s && recOk (RowW.records PySem.Challenge.rw_sheetback_k00_error_classes.row.toRowW) s) (XP := XL viewq readc) (Yf := PySem.W.Hook.obs hk) (Ya := PySem.W.Hook.val hk) (YP := PySem.W.Hook.says hk) (N := 11238) (d := lawd) (kwd := []) left (PySem.W.Hook.of hk) (PySem.W.Hook.keeps hk) (fun s e => xl_of s (Bool.and_eq_true_iff.mp e).1) XL.keeps (by kernel_rfl) (by kernel_rfl) (by kernel_rfl) (fun s e => recFacts_of (Bool.and_eq_true_iff.mp e).2) (by rfl) (by first | assumption | decide +kernel) (by decide +kernel) ⟨rfl, rfl, rfl, rfl, rfl, by decide +kernel⟩ ?hw hc
  w_witness2
end Law
set_option autoImplicit false
namespace Tr
open PySem (Str)
abbrev Key := Sum Int Str
inductive PV where
  | non | bl (b : Bool) | int (i : Int) | str (x : Str)
  | tup (xs : List PV)
  | lst (w : Bool) (xs : List PV)
  | dct (w : Bool) (ks : List Key) (vs : List PV)
  | ins (w : Bool) (c : Nat) (vs : List PV)
  | con (k : Nat)
  | exc (k : Nat) (vs : List PV)
  | st (w : Bool) (xs : List PV)
  deriving Inhabited
abbrev CK := List (Option Int)
def ckP : List PV → Option CK
  | [] => some []
  | .non :: xs => (ckP xs).map (none :: ·)
  | .int i :: xs => (ckP xs).map (some i :: ·)
  | _ => none
def cksP : List PV → Option (List CK)
  | [] => some []
  | .tup cs :: xs => (ckP cs).bind fun k => (cksP xs).map (k :: ·)
  | _ => none
mutual
def fro : PV → Bool
  | .tup xs => fros xs
  | .lst w xs => !w && fros xs
  | .dct w _ vs => !w && fros vs
  | .ins w _ vs => !w && fros vs
  | .non => true | .bl _ => true | .int _ => true | .str _ => true | .con _ => true
  | .exc _ vs => fros vs
  | .st w xs => !w && fros xs
def fros : List PV → Bool
  | [] => true
  | x :: xs => fro x && fros xs
end
mutual
def frz : PV → PV
  | .tup xs => .tup (frzs xs)
  | .lst _ xs => .lst false (frzs xs)
  | .dct _ ks vs => .dct false ks (frzs vs)
  | .ins _ c vs => .ins false c (frzs vs)
  | .non => .non | .bl b => .bl b | .int i => .int i | .str x => .str x | .con k => .con k
  | .exc k vs => .exc k (frzs vs)
  | .st _ xs => .st false (frzs xs)
def frzs : List PV → List PV
  | [] => []
  | x :: xs => frz x :: frzs xs
end
theorem fros_eq (xs : List PV) : fros xs = xs.all fro := by
  induction xs with
  | nil => rfl
  | cons x xs ih => simp [fros, ih]
theorem frzs_eq (xs : List PV) : frzs xs = xs.map frz := by
  induction xs with
  | nil => rfl
  | cons x xs ih => simp [frzs, ih]
mutual
theorem frz_of_fro : ∀ {v : PV}, fro v = true → frz v = v
  | .tup xs, h => by rw [fro] at h; rw [frz, frzs_of_fros h]
  | .lst w xs, h => by
    rw [fro] at h; simp only [Bool.and_eq_true, Bool.not_eq_true'] at h
    rw [frz, frzs_of_fros h.2, h.1]
  | .dct w ks vs, h => by
    rw [fro] at h; simp only [Bool.and_eq_true, Bool.not_eq_true'] at h
    rw [frz, frzs_of_fros h.2, h.1]
  | .ins w c vs, h => by
    rw [fro] at h; simp only [Bool.and_eq_true, Bool.not_eq_true'] at h
    rw [frz, frzs_of_fros h.2, h.1]
  | .non, _ => rfl | .bl _, _ => rfl | .int _, _ => rfl | .str _, _ => rfl | .con _, _ => rfl
  | .exc k vs, h => by rw [fro] at h; rw [frz, frzs_of_fros h]
  | .st w xs, h => by
    rw [fro] at h; simp only [Bool.and_eq_true, Bool.not_eq_true'] at h
    rw [frz, frzs_of_fros h.2, h.1]
theorem frzs_of_fros : ∀ {xs : List PV}, fros xs = true → frzs xs = xs
  | [], _ => rfl
  | x :: xs, h => by
    rw [fros] at h; simp only [Bool.and_eq_true] at h
    rw [frzs, frz_of_fro h.1, frzs_of_fros h.2]
end
abbrev Env := List (Option PV)
structure PExc where
  cls : Nat
  vals : List PV
inductive Res (α : Type) where
  | ok (a : α) (ρ : Env)
  | er (e : PExc) (ρ : Env)
  | bad
def Res.bind {α β : Type} (r : Res α) (k : α → Env → Res β) : Res β := match r with
  | .ok a ρ => k a ρ
  | .er e ρ => .er e ρ
  | .bad => .bad
@[simp] theorem Res.bind_ok {α β : Type} (a : α) (ρ : Env) (k : α → Env → Res β) : Res.bind (.ok a ρ) k = k a ρ := rfl
@[simp] theorem Res.bind_er {α β : Type} (e : PExc) (ρ : Env) (k : α → Env → Res β) : Res.bind (.er e ρ) k = .er e ρ := rfl
@[simp] theorem Res.bind_bad {α β : Type} (k : α → Env → Res β) : Res.bind .bad k = .bad := rfl
def Res.of {α : Type} (o : Option α) (ρ : Env) : Res α := match o with
  | some a => .ok a ρ
  | none => .bad
@[simp] theorem Res.of_some {α : Type} (a : α) (ρ : Env) : Res.of (some a) ρ = .ok a ρ := rfl
@[simp] theorem Res.of_none {α : Type} (ρ : Env) : (Res.of none ρ : Res α) = .bad := rfl
abbrev EF := Env → Res PV
abbrev TF := Env → Res Bool
inductive SR where
  | nx (ρ : Env) | rt (v : PV) (ρ : Env) | bk (ρ : Env) | ct (ρ : Env) | er (e : PExc) (ρ : Env) | bad
abbrev SF := Env → SR
inductive FR where
  | ok (v : PV) (as : List PV) | er (e : PExc) (as : List PV) | bad
abbrev FF := List PV → FR
inductive Opd where
  | nm (i : Nat)
  | ev (f : EF)
def slot (ρ : Env) (i : Nat) : Option PV := (ρ[i]?).join
def Opd.go (o : Opd) (ρ : Env) : Res (Option PV) := match o with
  | .nm i => match slot ρ i with
    | some _ => .ok none ρ
    | none => .bad
  | .ev f => (f ρ).bind fun v ρ1 => .ok (some v) ρ1
def Opd.get (o : Opd) (t : Option PV) (ρ : Env) : Option PV := match o with
  | .nm i => slot ρ i
  | .ev _ => t
def op1 {β : Type} (a : Opd) (k : PV → Option β) (ρ : Env) : Res β :=
  (a.go ρ).bind fun t ρ1 => .of ((a.get t ρ1).bind k) ρ1
def op2 {β : Type} (a b : Opd) (k : PV → PV → Option β) (ρ : Env) : Res β :=
  (a.go ρ).bind fun t ρ1 => (b.go ρ1).bind fun u ρ2 => .of ((a.get t ρ2).bind fun v => (b.get u ρ2).bind fun w => k v w) ρ2
def eC (v : PV) : EF := fun ρ => .ok v ρ
def eNm (i : Nat) : EF := fun ρ => match slot ρ i with
  | some v => .ok (frz v) (ρ.set i (some (frz v)))
  | none => .bad
def eMv (i : Nat) : EF := fun ρ => match slot ρ i with
  | some v => .ok v (ρ.set i none)
  | none => .bad
abbrev AF := Env → Res (List PV)
def aNil : AF := fun ρ => .ok [] ρ
def aCons (f : EF) (g : AF) : AF := fun ρ => (f ρ).bind fun v ρ1 => (g ρ1).bind fun vs ρ2 => .ok (v :: vs) ρ2
def eTup (g : AF) : EF := fun ρ => (g ρ).bind fun vs ρ1 => .ok (.tup vs) ρ1
def eLst (g : AF) : EF := fun ρ => (g ρ).bind fun vs ρ1 => .ok (.lst true vs) ρ1
def eT (t : TF) : EF := fun ρ => (t ρ).bind fun b ρ1 => .ok (.bl b) ρ1
def tE (f : EF) : TF := fun ρ => (f ρ).bind fun v ρ1 => match v with
  | .bl b => .ok b ρ1
  | _ => .bad
def tNot (t : TF) : TF := fun ρ => (t ρ).bind fun b ρ1 => .ok (!b) ρ1
def tAnd (t u : TF) : TF := fun ρ => (t ρ).bind fun b ρ1 => if b = true then u ρ1 else .ok false ρ1
def tOr (t u : TF) : TF := fun ρ => (t ρ).bind fun b ρ1 => if b = true then .ok true ρ1 else u ρ1
def eIf (t : TF) (f g : EF) : EF := fun ρ => (t ρ).bind fun b ρ1 => if b = true then f ρ1 else g ρ1
def sNx : SF := fun ρ => .nx ρ
def sSeq (s u : SF) : SF := fun ρ => match s ρ with
  | .nx ρ1 => u ρ1
  | r => r
def sOf {α : Type} (r : Res α) (k : α → Env → SR) : SR := match r with
  | .ok a ρ => k a ρ
  | .er e ρ => .er e ρ
  | .bad => .bad
@[simp] theorem sOf_ok {α : Type} (a : α) (ρ : Env) (k : α → Env → SR) : sOf (.ok a ρ) k = k a ρ := rfl
@[simp] theorem sOf_er {α : Type} (e : PExc) (ρ : Env) (k : α → Env → SR) : sOf (.er e ρ : Res α) k = .er e ρ := rfl
@[simp] theorem sOf_bad {α : Type} (k : α → Env → SR) : sOf (.bad : Res α) k = .bad := rfl
def sDo (f : EF) : SF := fun ρ => sOf (f ρ) fun _ ρ1 => .nx ρ1
def sRet (f : EF) : SF := fun ρ => sOf (f ρ) fun v ρ1 => .rt v ρ1
def sIf (t : TF) (a b : SF) : SF := fun ρ => sOf (t ρ) fun c ρ1 => if c = true then a ρ1 else b ρ1
def sSet (i : Nat) (f : EF) : SF := fun ρ => sOf (f ρ) fun v ρ1 => .nx (ρ1.set i (some v))
def outs : List Bool → List PV → Env → Option (List PV)
  | [], [], _ => some []
  | true :: fx, _ :: as, some v :: ρ => (outs fx as ρ).map (v :: ·)
  | false :: fx, a :: as, _ :: ρ => if fro a = true then (outs fx as ρ).map (a :: ·) else none
  | _, _, _ => none
def fin (fx : List Bool) (as : List PV) (v : PV) (ρ : Env) : FR := match outs fx as ρ with
  | some as' => .ok v as'
  | none => .bad
def finE (fx : List Bool) (as : List PV) (e : PExc) (ρ : Env) : FR := match outs fx as ρ with
  | some as' => .er e as'
  | none => .bad
def mk (fx : List Bool) (n : Nat) (body : SF) : FF := fun as =>
  if as.length = fx.length then
    match body (as.map some ++ List.replicate (n - fx.length) none) with
    | .nx ρ => fin fx as .non ρ
    | .rt v ρ => fin fx as v ρ
    | .er e ρ => finE fx as e ρ
    | _ => .bad
  else .bad
end Tr
set_option autoImplicit false
namespace Tr
open PySem (Str)
abbrev big : Nat := 16777216
def sOk (x : Str) : Bool := decide (x.length ≤ big) && x.cps.all (· < 0x110000)
def b2i (b : Bool) : Int := if b then 1 else 0
def mulOk (i j : Int) : Bool := decide (i.natAbs.log2 + j.natAbs.log2 < 100000000)
def divOk (j : Int) : Bool := decide (0 < j) && decide (j.natAbs.log2 < 9000)
def powOk (i j : Int) : Bool := decide (0 ≤ j) && decide (((i.natAbs.log2 + 1 : Nat) : Int) * j ≤ 134217728)
def bAdd : PV → PV → Option PV
  | .int i, .int j => some (.int (i + j))
  | .str x, .str y => if x.length + y.length ≤ big then some (.str (x ++ y)) else none
  | .lst _ xs, .lst _ ys => if fros xs && fros ys && decide (xs.length + ys.length ≤ big) then some (.lst true (xs ++ ys)) else none
  | .tup xs, .tup ys => if fros xs && fros ys && decide (xs.length + ys.length ≤ big) then some (.tup (xs ++ ys)) else none
  | _, _ => none
def bSub : PV → PV → Option PV
  | .int i, .int j => some (.int (i - j))
  | _, _ => none
def bMul : PV → PV → Option PV
  | .int i, .int j => if mulOk i j then some (.int (i * j)) else none
  | .str x, .int k => if decide (0 ≤ k) && decide (k ≤ 1000000) && decide (x.length * k.toNat ≤ big) then some (.str ⟨(List.replicate k.toNat x.cps.toList).flatten.toArray⟩) else none
  | _, _ => none
def bDiv : PV → PV → Option PV
  | .int i, .int j => if divOk j then some (.int (i / j)) else none
  | _, _ => none
def bMod : PV → PV → Option PV
  | .int i, .int j => if decide (0 < j) then some (.int (i % j)) else none
  | _, _ => none
def bPow : PV → PV → Option PV
  | .int i, .int j => if powOk i j then some (.int (i ^ j.toNat)) else none
  | _, _ => none
def uNeg : PV → Option PV
  | .int i => some (.int (-i))
  | _ => none
def dat : Nat → PV → Bool
  | _, .non => true | _, .bl _ => true | _, .int _ => true | _, .str _ => true
  | 0, _ => false
  | n + 1, .tup xs => xs.all (dat n)
  | n + 1, .lst _ xs => xs.all (dat n)
  | _ + 1, _ => false
abbrev deep : Nat := 20
mutual
def eqv : PV → PV → Bool
  | .non, .non => true
  | .bl a, .bl b => a == b
  | .bl a, .int j => b2i a == j
  | .int i, .bl b => i == b2i b
  | .int i, .int j => i == j
  | .str x, .str y => x == y
  | .lst _ xs, .lst _ ys => eqvs xs ys
  | .tup xs, .tup ys => eqvs xs ys
  | _, _ => false
def eqvs : List PV → List PV → Bool
  | [], [] => true
  | x :: xs, y :: ys => eqv x y && eqvs xs ys
  | _, _ => false
end
def cEq (v w : PV) : Option Bool := if dat deep v && dat deep w then some (eqv v w) else none
def cNe (v w : PV) : Option Bool := if dat deep v && dat deep w then some (!eqv v w) else none
def cLt : PV → PV → Option Bool
  | .int i, .int j => some (decide (i < j))
  | _, _ => none
def cGt : PV → PV → Option Bool
  | .int i, .int j => some (decide (j < i))
  | _, _ => none
def cIsN : PV → Option Bool
  | .non => some true
  | .con _ => none
  | .exc .. => none
  | .st .. => none
  | _ => some false
def ixN (n : Nat) (i : Int) : Option Nat := if 0 ≤ i then (if i < n then some i.toNat else none) else if -(n : Int) ≤ i then some (i + n).toNat else none
def atI {α : Type} (xs : List α) (i : Int) : Option α := (ixN xs.length i).bind fun j => xs[j]?
def onlyFro (v : PV) : Option PV := if fro v then some v else none
def ix : PV → PV → Option PV
  | .lst _ xs, .int i => (atI xs i).bind onlyFro
  | .tup xs, .int i => (atI xs i).bind onlyFro
  | .str z, .int i => (atI z.cps.toList i).map fun c => .str ⟨#[c]⟩
  | _, _ => none
def sIx (n d : Nat) : Option Int → Nat
  | none => d
  | some v => if v < 0 then (v + (n : Int)).toNat else min v.toNat n
def cut {α : Type} (xs : List α) (lo hi : Option Int) : List α := (xs.drop (sIx xs.length 0 lo)).take (sIx xs.length xs.length hi - sIx xs.length 0 lo)
def sl (v : PV) (lo hi : Option Int) : Option PV := match v with
  | .lst _ xs => if fros xs then some (.lst true (cut xs lo hi)) else none
  | .tup xs => if fros xs then some (.tup (cut xs lo hi)) else none
  | .str z => some (.str ⟨(cut z.cps.toList lo hi).toArray⟩)
  | _ => none
def goB (b : Option EF) (ρ : Env) : Res (Option Int) := match b with
  | none => .ok none ρ
  | some f => (f ρ).bind fun v ρ1 => match v with
    | .int i => .ok (some i) ρ1
    | _ => .bad
def eSl (a : Opd) (lo hi : Option EF) : EF := fun ρ => (a.go ρ).bind fun t ρ1 => (goB lo ρ1).bind fun i ρ2 => (goB hi ρ2).bind fun j ρ3 => .of ((a.get t ρ3).bind fun v => sl v i j) ρ3
def rv : PV → Option PV
  | .lst _ xs => if fros xs then some (.lst true xs.reverse) else none
  | _ => none
def fLen : PV → Option PV
  | .str x => some (.int x.length)
  | .lst _ xs => some (.int xs.length)
  | .tup xs => some (.int xs.length)
  | .dct _ ks _ => some (.int ks.length)
  | _ => none
def fAbs : PV → Option PV
  | .int i => some (.int (if i < 0 then -i else i))
  | _ => none
def fInt : PV → Option PV
  | .int i => some (.int i)
  | .bl b => some (.int (b2i b))
  | _ => none
def fMax2 : PV → PV → Option PV
  | .int i, .int j => some (.int (if j > i then j else i))
  | _, _ => none
def fMin2 : PV → PV → Option PV
  | .int i, .int j => some (.int (if j < i then j else i))
  | _, _ => none
def fTuple : PV → Option PV
  | .lst _ xs => if fros xs then some (.tup xs) else none
  | .tup xs => if fros xs then some (.tup xs) else none
  | _ => none
def bls : List PV → Option (List Bool)
  | [] => some []
  | .bl b :: xs => (bls xs).map (b :: ·)
  | _ :: _ => none
def allS : List PV → Option (List Str)
  | [] => some []
  | .str i :: xs => (allS xs).map (i :: ·)
  | _ :: _ => none
def fAll : PV → Option PV
  | .lst _ xs => (bls xs).map fun bs => .bl (bs.all id)
  | _ => none
def fJoin : PV → PV → Option PV
  | .str a, .lst _ xs => (allS xs).bind fun ys => if (ys.map (·.length)).sum + ys.length * a.length ≤ big then some (.str (Str.join a ys)) else none
  | .str a, .tup xs => (allS xs).bind fun ys => if (ys.map (·.length)).sum + ys.length * a.length ≤ big then some (.str (Str.join a ys)) else none
  | _, _ => none
inductive Ty where
  | int | bool | str | list | tuple | dict
  deriving DecidableEq
def isA : Ty → PV → Option Bool
  | _, .con _ => none
  | _, .exc .. => none
  | _, .st .. => none
  | _, .ins .. => none
  | .int, .int _ => some true
  | .int, .bl _ => some true
  | .bool, .bl _ => some true
  | .str, .str _ => some true
  | .list, .lst .. => some true
  | .tuple, .tup _ => some true
  | .dict, .dct .. => some true
  | _, _ => some false
def tPV (k : PV → Option Bool) (o : Opd) : TF := op1 o k
def tPV2 (k : PV → PV → Option Bool) (a b : Opd) : TF := op2 a b k
def eP1 (k : PV → Option PV) (o : Opd) : EF := op1 o k
def eP2 (k : PV → PV → Option PV) (a b : Opd) : EF := op2 a b k
def tCh (k l : PV → PV → Option Bool) (a b d : Opd) : TF := fun ρ =>
  (a.go ρ).bind fun t ρ1 => (b.go ρ1).bind fun u ρ2 =>
    (Res.of ((a.get t ρ2).bind fun v => (b.get u ρ2).bind fun w => k v w) ρ2).bind fun r ρ3 =>
      if r = true then (d.go ρ3).bind fun x ρ4 => .of ((b.get u ρ4).bind fun w => (d.get x ρ4).bind fun z => l w z) ρ4 else .ok false ρ3
end Tr
set_option maxHeartbeats 4000000
namespace Tr
open PySem PySem.Spec PyProof.Rows L2 HT
abbrev tupO (its : Array Value) : Obj := { cls := .type "tuple", data := .seq its }
def TB (o : Obj) : Prop := o.cls = .type "tuple" ∧ o.dict = none
def SqB (K : PySem.W.Frag) (H : Hp) (a : Addr) (xs : List V) : Prop :=
  (∃ o, H a = some (.frz o (.tup xs)) ∧ TB o) ∨ ∃ (o : Obj) (its : Array Value) (n : Nat), K.lookup a = some o ∧ TB o ∧ o.data = .seq its n ∧ its.size ≤ sizeLine ∧ Vals xs its.toList
section
variable {K : PySem.W.Frag} {H : Hp} {a : Addr} {xs : List V}
theorem SqB.sq (h : SqB K H a xs) : SqT K H a xs := by
  rcases h with ⟨o, h, _⟩ | ⟨o, its, n, h1, h2, h3⟩
  · exact .inl (.inr ⟨o, h⟩)
  · exact .inr ⟨o, its, n, h1, h2.1, h3⟩
theorem tB (its : Array Value) : TB (tupO its) := ⟨rfl, rfl⟩
theorem SqB.of {o : Obj} (h : H a = some (.frz o (.tup xs))) (b : TB o) : SqB K H a xs := .inl ⟨o, h, b⟩
theorem SqB.bare {X : Cx} {pins : List (Addr × Obj)} {σ : L2.St} {s : Shared} (I : L2.Inv X pins σ H s) (h : SqB X.K H a xs) : ∃ o, s.heap.get? a = some o ∧ TB o := by
  rcases h with ⟨o, h, b⟩ | ⟨o, its, n, h1, h2, h3⟩
  · exact ⟨o, (I.hok a _ h).1, b⟩
  · exact ⟨o, I.kIn a o h1, h2⟩
end
section
variable {X : Cx}
def tTupB (t : TA) : TE := fun σ H Q => t σ H fun xs H1 => xs.length ≤ sizeLine ∧ ∀ p o, H1 p = none → TB o → Q (.ref p) (upd H1 p (.frz o (.tup xs)))
theorem pe_tupB {es : List Expr} {t : TA} {pos : Pos} {x1} (h : PA X es t) : PE X (.Tuple es x1 pos) (tTupB t) := by
  refine ⟨fun pins s σ H Q I hq => ?_⟩
  refine wpAny_Tuple_spliced (thn (h.run pos pins s σ H _ I hq) fun us s1 ⟨xs, H1, I1, r, z, q⟩ => ⟨by rw [← r.length]; exact z, ?_⟩)
  have hf : H1 s1.heap.objs.size = none := I1.hok.fresh (Nat.le_refl _)
  refine ⟨.ref s1.heap.objs.size, upd H1 s1.heap.objs.size (.frz (tupO us.toArray) (.tup xs)), I1.laid (t' := s1.toks) (fun b u e => Heap.get?_push_of_some _ e) (Nat.le_refl _) ?_, rfl, q _ _ hf (tB _)⟩
  exact ⟨Heap.get?_push_size _ rfl, z, us, r, ⟨_, Heap.get?_push_size _ rfl, rfl, _, rfl⟩⟩
def rSlB (K : PySem.W.Frag) : V → Option Int → Option Int → Hp → VK → Prop := fun x lo hi H Q => ∃ a xs, x = .ref a ∧ SqT K H a xs ∧
  (HT.sIx xs.length 0 lo = 0 ∧ HT.sIx xs.length xs.length hi = xs.length → Q (.ref a) H) ∧ (¬ (HT.sIx xs.length 0 lo = 0 ∧ HT.sIx xs.length xs.length hi = xs.length) → ∀ p o, H p = none → TB o → Q (.ref p) (upd H p (.frz o (.tup (cutV xs lo hi)))))
theorem sl_tupB : SlR X (rSlB X.K) := by
  intro pins s σ H x v vl vu lo hi sl Q I rx hs pl pu h
  obtain ⟨a, xs, rfl, hx, q1, q2⟩ := h
  cases rx
  obtain ⟨its, r, ht, hz⟩ := I.tuple hx
  have hlen : its.toArray.size = xs.length := by rw [List.size_toArray]; exact r.length.symm
  refine ⟨"tuple", _, PyProof.Rows.slot_tuple_getitem.lookup, ht.typeIs, ?_⟩
  by_cases hw : HT.sIx xs.length 0 lo = 0 ∧ HT.sIx xs.length xs.length hi = xs.length
  · exact getItem_tuple_whole ht hs pl pu (by rw [hlen]; exact hw) ⟨.ref a, H, I, rfl, q1 hw⟩
  · refine HT.getItem_tuple_cut ht hs pl pu (by rw [hlen]; exact hw) ?_ (by rw [hlen]; exact hz)
    rw [hlen]
    refine ⟨.ref s.heap.objs.size, _, I.laid (t' := s.toks) (o := .frz (tupO ((its.drop (HT.sIx xs.length 0 lo)).take (HT.sIx xs.length xs.length hi - HT.sIx xs.length 0 lo)).toArray) (.tup (cutV xs lo hi))) (fun b ob q => Heap.get?_push_of_some _ q) (Nat.le_refl _) ?_, rfl, q2 hw _ _ (I.hok.fresh (Nat.le_refl _)) (tB _)⟩
    exact ⟨Heap.get?_push_size _ rfl, Nat.le_trans (cutV_length xs lo hi) hz, _, (r.drop (HT.sIx xs.length 0 lo)).take (HT.sIx xs.length xs.length hi - HT.sIx xs.length 0 lo), IsTup.new _ _⟩
def rCatB (K : PySem.W.Frag) : R2 := fun x y H Q => ∃ a b xs ys, x = .ref a ∧ y = .ref b ∧ SqT K H a xs ∧ SqT K H b ys ∧ xs.length + ys.length ≤ sizeLine ∧
  (xs = [] → Q (.ref b) H) ∧ (xs ≠ [] → ys = [] → Q (.ref a) H) ∧ (xs ≠ [] → ys ≠ [] → ∀ p o, H p = none → TB o → Q (.ref p) (upd H p (.frz o (.tup (xs ++ ys)))))
theorem op_catB : OpR X (binaryOp .Add) (rCatB X.K) := by
  intro pins s σ H x y v u Q I rx ry h
  obtain ⟨a, b, xs, ys, rfl, rfl, ha, hb, hz, q0, q1, q2⟩ := h
  cases rx
  cases ry
  obtain ⟨its, r1, p1, _⟩ := I.tuple ha
  obtain ⟨its2, r2, p2, _⟩ := I.tuple hb
  by_cases hx : xs = []
  · subst hx
    cases r1
    exact cat_tup0 p1 p2 ⟨.ref b, H, I, rfl, q0 rfl⟩
  · refine HT.cat_tup p1 p2 (fun z => hx (r1.nil_iff.mp z)) (fun z => ⟨.ref a, H, I, rfl, q1 hx (r2.nil_iff.mp z)⟩) (fun z => ?_) (by rw [← r1.length, ← r2.length]; exact hz)
    refine ⟨.ref s.heap.objs.size, _, I.laid (t' := s.toks) (o := .frz (tupO (its ++ its2).toArray) (.tup (xs ++ ys))) (fun b ob q => Heap.get?_push_of_some _ q) (Nat.le_refl _) ?_, rfl, q2 hx (fun w => z (r2.nil_iff.mpr w)) _ _ (I.hok.fresh (Nat.le_refl _)) (tB _)⟩
    exact ⟨Heap.get?_push_size _ rfl, by rw [List.length_append]; exact hz, _, r1.append r2, IsTup.new _ _⟩
end
end Tr
namespace Tr
open PySem PySem.Spec PyProof.Rows L2
def cN : Option Int → NestedKey
  | none => .none
  | some i => .num i
def nK (k : CK) : NestedKey := .tup (k.map cN)
def cH : Option Int → Int
  | none => reduceHash 0xFCA86420
  | some i => hashInt i
def kH (k : CK) : Int := reduceHash (Builtin.Tuple.tupleHashOf (k.map cH))
theorem cN_inj : ∀ {a b : Option Int}, cN a = cN b → a = b
  | none, none, _ => rfl
  | none, some _, h => nomatch h
  | some _, none, h => nomatch h
  | some i, some j, h => by
    have h : NestedKey.num i = NestedKey.num j := h
    injection h with h
    rw [h]
theorem cNs_inj : ∀ {a b : CK}, a.map cN = b.map cN → a = b
  | [], [], _ => rfl
  | [], _ :: _, h => by cases h
  | _ :: _, [], h => by cases h
  | x :: xs, y :: ys, h => by
    rw [List.map_cons, List.map_cons] at h
    injection h with h1 h2
    rw [cN_inj h1, cNs_inj h2]
theorem nK_inj {a b : CK} (h : nK a = nK b) : a = b := by
  unfold nK at h
  injection h with h
  exact cNs_inj h
theorem cHs (w : World) : ∀ k : CK, NestedKey.hashes w (k.map cN) = k.map cH
  | [] => by simp [NestedKey.hashes]
  | x :: k => by
    rw [List.map_cons, List.map_cons, NestedKey.hashes, cHs w k]
    cases x <;> simp [cN, cH, NestedKey.hash]
theorem nK_hash (w : World) (k : CK) : (nK k).hash w = kH k := by
  unfold nK kH
  rw [NestedKey.hash, cHs]
theorem cD : ∀ k : CK, NestedKey.depthAll (k.map cN) = 0
  | [] => by simp [NestedKey.depthAll]
  | x :: k => by
    rw [List.map_cons, NestedKey.depthAll, cD k]
    cases x <;> simp [cN, NestedKey.depth]
theorem nK_depth (k : CK) : (nK k).depth ≤ 8 := by
  unfold nK
  rw [NestedKey.depth, cD]; omega
def IsC (h : Heap) (k : CK) (b : Addr) : Prop := NestedIs h (nK k) (.ref b)
def Bare (v : Value) : Prop := v = .none ∨ (∃ b, v = .bool b) ∨ ∃ i t, v = .int i t
theorem bare_of {h : Heap} : ∀ {k : CK} {vs : List Value}, NestedAll h (k.map cN) vs → ∀ v ∈ vs, Bare v
  | [], _, r, v, m => by cases r; cases m
  | x :: k, _, r, v, m => by
    rw [List.map_cons] at r
    cases r with
    | cons r1 r2 =>
      rcases List.mem_cons.mp m with e | m
      · subst e
        cases x with
        | none => cases r1; exact .inl rfl
        | some i => cases r1 with
          | bool _ => exact .inr (.inl ⟨_, rfl⟩)
          | int _ t => exact .inr (.inr ⟨_, _, rfl⟩)
      · exact bare_of r2 v m
theorem IsC.open {h : Heap} {k : CK} {b : Addr} (x : IsC h k b) : ∃ (o : Obj) (vs : Array Value) (n : Nat), h.get? b = some o ∧ o.cls = .type "tuple" ∧ o.data = .seq vs n ∧ ∀ v ∈ vs.toList, Bare v := by
  unfold IsC nK at x
  cases x with
  | tup h1 h2 h3 h4 => exact ⟨_, _, _, h1, h2, h3, bare_of h4⟩
theorem IsC.keep {h h' : Heap} {k : CK} {b : Addr} (x : IsC h k b) (e : ∀ o, h.get? b = some o → h'.get? b = some o) : IsC h' k b := by
  unfold IsC nK at x ⊢
  cases x with
  | tup h1 h2 h3 h4 =>
    refine .tup (e _ h1) h2 h3 ?_
    have go : ∀ {k : CK} {vs : List Value}, NestedAll h (k.map cN) vs → NestedAll h' (k.map cN) vs := by
      intro k
      induction k with
      | nil => intro vs r; cases r; exact .nil
      | cons x k ih =>
        intro vs r
        rw [List.map_cons] at r ⊢
        cases r with
        | cons r1 r2 =>
          refine .cons ?_ (ih r2)
          cases x with
          | none => cases r1; exact .none
          | some i => cases r1 with
            | bool e => exact .bool e
            | int _ t => exact .int _ t
    exact go h4
section
variable {prog : Program} {w : World} {A : Around} {E : Value → Shared → Prop} {s : Shared}
theorem c_eq {x y : CK} {a b : Addr} {Q : Bool → Shared → Prop} (hu : A.units + 8 < cLine) (hx : IsC s.heap x a) (hy : IsC s.heap y b) (h : Q (decide (x = y)) s) : wpAny (model prog w) A (eqBool (.ref a) (.ref b)) Q E s := by
  refine (nestedKind prog w).eqBool hu ⟨hx, nK_depth x⟩ ⟨hy, nK_depth y⟩ ?_
  have e : decide (nK x = nK y) = decide (x = y) := by
    by_cases q : x = y
    · rw [decide_eq_true q, decide_eq_true (by rw [q])]
    · rw [decide_eq_false q, decide_eq_false fun z => q (nK_inj z)]
  rw [e]; exact h
theorem c_hash {x : CK} {a : Addr} {Q : Int → Shared → Prop} (hu : A.units + 8 < cLine) (hx : IsC s.heap x a) (h : ∀ n, Q (kH x) { s with toks := s.toks + n }) : wpAny (model prog w) A (pyHash (.ref a)) Q E s := by
  refine (nestedKind prog w).pyHash hu ⟨hx, nK_depth x⟩ ?_
  show Q ((nK x).hash w) _
  rw [nK_hash]; exact h _
theorem bare_cls (n : Nat) {v : Value} (h : Bare v) : ofAClassStatement n v = pure false := by
  rcases h with rfl | ⟨b, rfl⟩ | ⟨i, t, rfl⟩ <;> cases n <;> rfl
theorem c_cls {k : CK} {b : Addr} {Q : Bool → Shared → Prop} (hx : IsC s.heap k b) (h : Q false s) : wpAny (model prog w) A (ofAClassStatement 8 (.ref b)) Q E s := by
  obtain ⟨o, vs, n, ho, hc, hd, hb⟩ := hx.open
  unfold ofAClassStatement
  refine wpAny_bind (wpAny_typeOf (T := "tuple") ⟨o, ho, hc⟩ ?_)
  dsimp only
  rw [if_pos (by decide)]
  refine wpAny_bind (wpAny_pure ?_)
  rw [if_neg (by simp)]
  refine wpAny_bind (wpAny_seqItems ho hd ?_)
  dsimp only
  refine wpAny_bind ?_
  rw [← Array.forIn_toList]
  refine wpAny_forIn_list _ (fun rest r s' => r.1 = none ∧ s' = s ∧ ∀ v ∈ rest, Bare v) _ ?_ ?_ _ _ ⟨rfl, rfl, hb⟩
  · rintro v rest r s' ⟨hr, rfl, all⟩
    rw [bare_cls 7 (all v List.mem_cons_self)]
    refine wpAny_bind (wpAny_pure ?_)
    rw [if_neg (by simp)]
    exact wpAny_pure ⟨rfl, rfl, fun u m => all u (List.mem_cons_of_mem _ m)⟩
  · rintro ⟨r1, r2⟩ s' ⟨hr, rfl, _⟩
    cases hr
    exact wpAny_pure h
theorem c_seen {k : CK} {b : Addr} {Q : Bool → Shared → Prop} (hx : IsC s.heap k b) {ys : List Value} (hy : ∀ y ∈ ys, ∃ k' c, y = .ref c ∧ IsC s.heap k' c) (h : Q false s) : wpAny (model prog w) A (searchCouldBeSeen (.ref b) ys) Q E s := by
  have quiet : ∀ {k : CK} {b : Addr} {Q : Bool → Shared → Prop}, IsC s.heap k b → Q true s → wpAny (model prog w) A (eqIsQuiet 8 (.ref b)) Q E s := fun {k b Q} z q => (nestedKind prog w).quiet ⟨z, nK_depth k⟩ q
  unfold searchCouldBeSeen
  refine wpAny_bind (wpAny_forIn_list _ (fun rest r s' => r.1 = none ∧ s' = s ∧ ∀ y ∈ rest, ∃ k' c, y = .ref c ∧ IsC s.heap k' c) _ ?_ ?_ _ _ ⟨rfl, rfl, hy⟩)
  · rintro v rest r s' ⟨hr, rfl, all⟩
    obtain ⟨k', c, rfl, hc⟩ := all v List.mem_cons_self
    have tl : ∀ y ∈ rest, ∃ k' c, y = .ref c ∧ IsC s'.heap k' c := fun u m => all u (List.mem_cons_of_mem _ m)
    dsimp only
    split
    · exact wpAny_pure ⟨rfl, rfl, tl⟩
    · refine wpAny_bind (quiet hx ?_)
      rw [if_neg (by simp)]
      refine wpAny_bind (quiet hc ?_)
      rw [if_neg (by simp)]
      refine wpAny_bind (c_cls hx ?_)
      rw [if_neg (by simp)]
      refine wpAny_bind (c_cls hc ?_)
      rw [if_neg (by simp)]
      exact wpAny_pure ⟨rfl, rfl, tl⟩
  · rintro ⟨r1, r2⟩ s' ⟨hr, rfl, _⟩
    cases hr
    exact wpAny_pure h
end
structure SetC (h : Heap) (a : Addr) (L : List (Addr × CK)) (es : Array (Int × Value)) (ep : Nat) (t : SetTable) : Prop where
  ob : ∃ o, h.get? a = some o ∧ o.ExactSet ∧ o.data = .set es ep t
  rows : es.toList = L.map fun q => (kH q.2, Value.ref q.1)
  tab : TabOk t (L.map fun q => kH q.2)
  nd : (L.map (·.2)).Nodup
  plain : t.plain = true
  room : L.length * 5 < t.mask * 3
  few : L.length < 64
section
variable {h : Heap} {a : Addr} {L : List (Addr × CK)} {es : Array (Int × Value)} {ep : Nat} {t : SetTable}
theorem SetC.size (R : SetC h a L es ep t) : es.size = L.length := by
  have := congrArg List.length R.rows
  rwa [Array.length_toList, List.length_map] at this
theorem SetC.fits (R : SetC h a L es ep t) : t.fits es.size = true := by
  have h1 := R.tab.sz
  have h3 := R.room
  rw [List.length_map] at h1
  unfold SetTable.fits SetTable.fill
  rw [R.tab.dm, R.size, Bool.and_eq_true, beq_iff_eq, decide_eq_true_eq]
  exact ⟨h1, by show t.place.size + 0 ≤ t.mask; omega⟩
theorem SetC.entry (R : SetC h a L es ep t) {i : Nat} {q : Addr × CK} (e : L[i]? = some q) : es[i]? = some (kH q.2, Value.ref q.1) := by
  rw [← Array.getElem?_toList, R.rows, List.getElem?_map, e]; rfl
theorem SetC.whole (R : SetC h a L es ep t) : ¬ t.gaveWay = true := by
  unfold SetTable.gaveWay
  rw [mask_odd R.tab.mok]
  decide
end
section
variable {prog : Program} {w : World} {A : Around} {E : Value → Shared → Prop} {s : Shared} {a : Addr} {L : List (Addr × CK)} {es : Array (Int × Value)} {ep : Nat} {t : SetTable}
abbrev pth (m : Nat) (h : Int) (c : Nat) : SetTable.Probe := nth m (runAt m (SetTable.bits h % (m + 1)) (SetTable.bits h)) c
theorem pth_none (m : Nat) (h : Int) (c : Nat) : (pth m h c).dummy = none := by
  have go : ∀ (n : Nat) (p : SetTable.Probe), p.dummy = none → (nth m p n).dummy = none := by
    intro n
    induction n with
    | zero => intro p h; exact h
    | succ n ih =>
      intro p h
      refine ih (adv m p) ?_
      unfold adv
      split <;> exact h
  exact go c _ rfl
theorem pth_add (m : Nat) (h : Int) (c q : Nat) : nth m (pth m h c) q = pth m h (c + q) := (nth_add m c _ q).symm
theorem SetC.go (R : SetC s.heap a L es ep t) (all : ∀ q ∈ L, IsC s.heap q.2 q.1) {x : Addr} {k : CK} (hx : IsC s.heap k x) (hu : A.units + 8 < cLine) {adding : Bool} {K : Nat} (hK : way t.mask (kH k) K ∉ t.place.toList) (hb : ∀ c, c < K → way t.mask (kH k) c ∈ t.place.toList) (hf : K < 10 * SetTable.turns t.mask)
    {Q : SetFound → Shared → Prop} (hin : ∀ o, k ∈ L.map (·.2) → (adding = false → o.isSome = true) → Q (.there o) s) (hout : k ∉ L.map (·.2) → Q (.free (way t.mask (kH k) K) false) s) :
    ∀ (f c : Nat) (stand : Option SetTable.Probe), stand.getD (t.probeStart (kH k)) = pth t.mask (kH k) c → c ≤ K → K < c + f →
      (∀ (c' i : Nat) (q : Addr × CK), c' < c → t.place.toList[i]? = some (way t.mask (kH k) c') → L[i]? = some q → q.2 ≠ k) →
      wpAny (model prog w) A (setSearchFrom a (.ref x) (kH k) adding f stand) Q E s
  | 0, c, stand, _, h1, h2, _ => by omega
  | f + 1, c, stand, hst, h1, h2, no => by
    obtain ⟨o, ho, hex, hd⟩ := R.ob
    have len : ∀ {i j : Nat}, t.place.toList[i]? = some j → ∃ q, L[i]? = some q ∧ q ∈ L := fun {i j} e => by
      have l1 := (List.getElem?_eq_some_iff.mp e).1
      have l2 := R.tab.sz
      rw [List.length_map] at l2
      rw [Array.length_toList] at l1
      have l3 : i < L.length := by omega
      exact ⟨L[i], List.getElem?_eq_getElem l3, List.getElem_mem l3⟩
    have hash : ∀ {i : Nat} {q : Addr × CK}, L[i]? = some q → ((es[i]?.map (·.1)).getD 0 : Int) = kH q.2 := fun e => by rw [R.entry e]; rfl
    have wy : ∀ q, (nth t.mask (pth t.mask (kH k) c) q).j = way t.mask (kH k) (c + q) := fun q => by rw [pth_add]
    rw [setSearchFrom_succ]
    refine wpAny_bind (wpAny_setState_of ho hd R.fits ?_)
    dsimp only
    rw [if_neg R.whole, hst]
    rcases go_spec t R.tab.ris R.tab.dm (fun i => (es[i]?.map (·.1)).getD 0) (kH k) (10 * SetTable.turns t.mask) (K - c) (pth t.mask (kH k) c) (pth_none _ _ _) (by omega)
      (fun q hq => by rw [wy]; exact hb _ (by omega)) (by rw [wy, show c + (K - c) = K by omega]; exact hK) with ⟨q, i, hq, hi, _, hno, hp⟩ | ⟨hno, hp⟩
    · -- something of the same hash
      have hp2 : t.probe (fun i => (es[i]?.map (·.1)).getD 0) (kH k) (pth t.mask (kH k) c) = some (.candidate (nth t.mask (pth t.mask (kH k) c) q).j i (nth t.mask (pth t.mask (kH k) c) (q + 1))) := hp
      rw [hp2]
      dsimp only
      rw [wy] at hi ⊢
      rw [pth_add]
      obtain ⟨p, hpe, hpm⟩ := len hi
      have live : t.slot (way t.mask (kH k) (c + q)) = .live i := slot_live R.tab.ris hi
      have rest : wpAny (model prog w) A (searchRest a (.ref x) (kH k) adding f es t (way t.mask (kH k) (c + q)) i (pth t.mask (kH k) (c + (q + 1)))) Q E s := by
        unfold searchRest
        rw [R.entry hpe]
        dsimp only
        refine wpAny_bind (wpAny_holding (c_eq hu (all p hpm) hx ?_))
        refine wpAny_bind (wpAny_setState_of ho hd R.fits ?_)
        dsimp only
        by_cases e : p.2 = k
        · have mem : k ∈ L.map (·.2) := List.mem_map.mpr ⟨p, hpm, e⟩
          rw [decide_eq_true e]
          cases adding with
          | true =>
            rw [if_pos (show (true && true) = true from rfl)]
            exact wpAny_pure (hin none mem (fun z => by cases z))
          | false =>
            rw [if_neg (by simp), sameMem]
            dsimp only
            rw [if_pos rfl, live]
            dsimp only
            rw [R.entry hpe]
            dsimp only
            refine wpAny_bind (wpAny_isSame_ref_self (wpAny_bind (wpAny_pure ?_)))
            rw [if_pos rfl]
            dsimp only
            rw [if_pos rfl]
            exact wpAny_pure (hin (some i) mem fun _ => rfl)
        · rw [decide_eq_false e, if_neg (by simp), sameMem]
          dsimp only
          rw [if_pos rfl, live]
          dsimp only
          rw [R.entry hpe]
          dsimp only
          refine wpAny_bind (wpAny_isSame_ref_self (wpAny_bind (wpAny_pure ?_)))
          rw [if_pos rfl]
          dsimp only
          rw [if_neg (by simp)]
          refine SetC.go R all hx hu hK hb hf hin hout f (c + (q + 1)) (some (pth t.mask (kH k) (c + (q + 1)))) rfl (by omega) (by omega) fun c' i' p' hc' hi' hp' ek => ?_
          rcases Nat.lt_or_ge c' c with z | z
          · exact no c' i' p' z hi' hp' ek
          · rcases Nat.lt_or_ge c' (c + q) with z2 | z2
            · exact hno (c' - c) i' (by omega) (by rw [wy, show c + (c' - c) = c' by omega]; exact hi') (by rw [hash hp', ek])
            · have e2 : c' = c + q := by omega
              subst e2
              have l2 := slot_live R.tab.ris hi'
              rw [live] at l2
              injection l2 with l2
              subst l2
              rw [hpe] at hp'
              cases hp'
              exact e ek
      split
      · refine wpAny_bind (c_seen hx (fun y hy => ?_) ?_)
        · obtain ⟨en, hen, ey⟩ := List.mem_map.mp hy
          have hen : en ∈ es.toList := by
            have z : en ∈ es ∧ en.1 = kH k := by simpa using hen
            simpa using z.1
          rw [R.rows] at hen
          obtain ⟨p2, hp2, e2⟩ := List.mem_map.mp hen
          exact ⟨p2.2, p2.1, by rw [← ey, ← e2], all p2 hp2⟩
        · rw [if_neg (by simp)]
          exact rest
      · exact rest
    · -- nothing before the empty place
      have hp2 : t.probe (fun i => (es[i]?.map (·.1)).getD 0) (kH k) (pth t.mask (kH k) c) = some (.empty (nth t.mask (pth t.mask (kH k) c) (K - c)).j none) := hp
      rw [hp2]
      dsimp only
      rw [wy, show c + (K - c) = K by omega]
      refine wpAny_pure (hout fun hm => ?_)
      obtain ⟨p, hpm, e⟩ := List.mem_map.mp hm
      obtain ⟨i, hi, ei⟩ := List.getElem_of_mem hpm
      have hpe : L[i]? = some p := by rw [List.getElem?_eq_getElem hi, ei]
      have hle : i < t.place.toList.length := by
        have := R.tab.sz
        rw [List.length_map] at this
        rw [Array.length_toList]; omega
      have hpl := List.getElem?_eq_getElem hle
      obtain ⟨c', hc', ew⟩ := R.tab.before (h := kH k) hK (by rw [List.getElem?_map, hpe, ← e]; rfl) hpl
      rw [← ew] at hpl
      rcases Nat.lt_or_ge c' c with z | z
      · exact no c' i p z hpl hpe e
      · exact hno (c' - c) i (by omega) (by rw [wy, show c + (c' - c) = c' by omega]; exact hpl) (by rw [hash hpe, e])
theorem SetC.search (R : SetC s.heap a L es ep t) (all : ∀ q ∈ L, IsC s.heap q.2 q.1) {x : Addr} {k : CK} (hx : IsC s.heap k x) (hu : A.units + 8 < cLine) {adding : Bool} {Q : SetFound → Shared → Prop}
    (hin : ∀ o, k ∈ L.map (·.2) → (adding = false → o.isSome = true) → Q (.there o) s)
    (hout : ∀ K, k ∉ L.map (·.2) → way t.mask (kH k) K ∉ t.place.toList → (∀ c, c < K → way t.mask (kH k) c ∈ t.place.toList) → Q (.free (way t.mask (kH k) K) false) s) :
    wpAny (model prog w) A (setSearch a (.ref x) (kH k) adding) Q E s := by
  have room := R.room
  obtain ⟨K, hf, hK, hb⟩ := R.tab.first (by rw [List.length_map]; omega) (kH k)
  have few : K < 100000 := by
    have : 10 * SetTable.turns t.mask ≤ 2000 := by
      unfold SetTable.turns
      rcases R.tab.mok with e | e | e <;> omega
    omega
  unfold setSearch
  exact R.go all hx hu hK hb hf hin (fun hn => hout K hn hK hb) 100000 0 none rfl (Nat.zero_le _) (by omega) fun c' i q h => absurd h (Nat.not_lt_zero _)
theorem SetC.find (R : SetC s.heap a L es ep t) (all : ∀ q ∈ L, IsC s.heap q.2 q.1) {x : Addr} {k : CK} (hx : IsC s.heap k x) (hu : A.units + 8 < cLine) {Q : Option Nat → Shared → Prop} (hQ : ∀ r, r.isSome = decide (k ∈ L.map (·.2)) → Q r s) :
    wpAny (model prog w) A (setFind a (.ref x) (kH k)) Q E s := by
  obtain ⟨o, ho, hex, hd⟩ := R.ob
  unfold setFind
  rw [show (100000 : Nat) = 99999 + 1 from rfl]
  unfold setFindIn
  refine wpAny_bind (wpAny_setState_of ho hd R.fits ?_)
  dsimp only
  rw [if_neg (by simp [byScan, Value.scannable])]
  refine wpAny_bind (R.search all hx hu (fun o hm hs => ?_) fun K hm _ _ => ?_)
  · exact wpAny_pure (hQ o (by rw [hs rfl, decide_eq_true hm]))
  · exact wpAny_pure (hQ none (by rw [decide_eq_false hm]; rfl))
theorem SetC.type (R : SetC s.heap a L es ep t) : s.TypeIs (.ref a) "set" := by
  obtain ⟨o, ho, hex, _⟩ := R.ob
  exact ⟨o, ho, hex.1⟩
theorem SetC.contains (R : SetC s.heap a L es ep t) (all : ∀ q ∈ L, IsC s.heap q.2 q.1) {x : Addr} {k : CK} (hx : IsC s.heap k x) (hu : A.in1.units + 8 < cLine) {Q : Bool → Shared → Prop} (h : ∀ n, Q (decide (k ∈ L.map (·.2))) { s with toks := s.toks + n }) :
    wpAny (model prog w) A (PySem.contains (.ref a) (.ref x)) Q E s := by
  unfold PySem.contains
  refine wpAny_holding ?_
  refine wpAny_bind (wpAny_specialOf R.type PySem.F.slot_set_contains.lookup ?_)
  rw [if_neg (by rw [beq_builtin_none]; exact Bool.false_ne_true)]
  refine wpAny_bind (wpAny_callSpecialUnlessNone?_slot (name := Str.ofString "__contains__") R.type PySem.F.slot_set_contains
    (wpAny_call_entry PySem.F.slot_set_contains R.type entry_set_contains ?_ (PySem.F.args_set_contains_2 _ _)))
  unfold Builtin.«frozenset.__contains__» Builtin.Frozenset.oneOther
  simp only [List.isEmpty_nil, bind_assoc]
  unfold Builtin.Frozenset.addrOf Builtin.Frozenset.withSetAsKey setContains
  refine wpAny_bind (wpAny_pure ?_)
  refine wpAny_bind (wpAny_pure ?_)
  refine wpAny_bind (wpAny_tryCatch (wpAny_holding (wpAny_bind (c_hash hu hx fun n => ?_))))
  refine wpAny_bind (SetC.find (s := { s with toks := s.toks + n }) R all hx hu fun r hr => ?_)
  refine wpAny_pure ?_
  show wpAny _ _ (ret (Value.bool r.isSome)) _ _ _
  rw [hr]
  exact wpAny_pure ⟨_, rfl, wpAny_truthy_bool (h n)⟩
end
end Tr
namespace Tr
open PySem PySem.Spec PyProof.Rows L2
abbrev AS := Addr → Prop
abbrev Emp : AS := fun _ => False
abbrev Uni (a b : AS) : AS := fun p => a p ∨ b p
def Sub (a b : AS) : Prop := ∀ p, a p → b p
def Dis (a b : AS) : Prop := ∀ p, a p → b p → False
theorem Sub.refl (a : AS) : Sub a a := fun _ h => h
theorem Sub.trans {a b c : AS} (h : Sub a b) (k : Sub b c) : Sub a c := fun p x => k p (h p x)
theorem Sub.emp {a : AS} : Sub Emp a := fun _ h => h.elim
theorem Sub.l {a b : AS} : Sub a (Uni a b) := fun _ h => .inl h
theorem Sub.r {a b : AS} : Sub b (Uni a b) := fun _ h => .inr h
theorem Sub.uni {a b c : AS} (h : Sub a c) (k : Sub b c) : Sub (Uni a b) c := fun p x => x.elim (h p) (k p)
theorem Dis.sym {a b : AS} (h : Dis a b) : Dis b a := fun p x y => h p y x
theorem Dis.mono {a b a' b' : AS} (h : Dis a b) (k : Sub a' a) (l : Sub b' b) : Dis a' b' := fun p x y => h p (k p x) (l p y)
theorem Dis.empl {a : AS} : Dis Emp a := fun _ h => h.elim
theorem Dis.empr {a : AS} : Dis a Emp := fun _ _ h => h.elim
theorem Dis.uni {a b c : AS} (h : Dis a c) (k : Dis b c) : Dis (Uni a b) c := fun p x y => x.elim (fun z => h p z y) (fun z => k p z y)
def Mu : HO → Prop
  | .lst _ => True
  | .dK _ => True
  | .ins _ _ _ => True
  | .ext _ => True
  | _ => False
structure Good (H : Hp) (F A : AS) : Prop where
  own : ∀ p, A p → ¬ F p ∧ ∃ o, H p = some o ∧ Mu o
  fro : ∀ p, F p → ∃ o, H p = some o
theorem Good.sub {H : Hp} {F A B : AS} (g : Good H F A) (h : Sub B A) : Good H F B := ⟨fun p x => g.own p (h p x), g.fro⟩
theorem Good.uni {H : Hp} {F A B : AS} (g : Good H F A) (h : Good H F B) : Good H F (Uni A B) := ⟨fun p x => x.elim (g.own p) (h.own p), g.fro⟩
structure Stp (H : Hp) (F A : AS) (H' : Hp) (F' A' : AS) : Prop where
  keep : ∀ p o, H p = some o → ¬ A p → H' p = some o
  live : ∀ p, H' p = none → H p = none
  mono : ∀ p, F p → F' p
  newF : ∀ p, F' p → F p ∨ H p = none ∨ A p
  newA : ∀ p, A' p → H p = none ∨ A p
theorem Stp.refl {H : Hp} {F A : AS} : Stp H F A H F A := ⟨fun _ _ h _ => h, fun _ h => h, fun _ h => h, fun _ h => .inl h, fun _ h => .inr h⟩
theorem Stp.drop {H H' : Hp} {F A F' A' B : AS} (s : Stp H F A H' F' A') (h : Sub B A') : Stp H F A H' F' B := ⟨s.keep, s.live, s.mono, s.newF, fun p x => s.newA p (h p x)⟩
theorem Stp.more {H H' : Hp} {F A F' A' B : AS} (s : Stp H F A H' F' A') (h : Sub A B) : Stp H F B H' F' A' :=
  ⟨fun p o e n => s.keep p o e fun x => n (h p x), s.live, s.mono, fun p x => (s.newF p x).imp_right (·.imp_right (h p)), fun p x => (s.newA p x).imp_right (h p)⟩
theorem Stp.trans {H H1 H2 : Hp} {F A F1 A1 F2 A2 : AS} (s : Stp H F A H1 F1 A1) (t : Stp H1 F1 A1 H2 F2 A2) : Stp H F A H2 F2 A2 where
  keep := fun p o e n => t.keep p o (s.keep p o e n) fun x => (s.newA p x).elim (fun z => by rw [e] at z; cases z) n
  live := fun p e => s.live p (t.live p e)
  mono := fun p x => t.mono p (s.mono p x)
  newF := fun p x => by
    rcases t.newF p x with x | x | x
    · exact s.newF p x
    · exact .inr (.inl (s.live p x))
    · exact .inr (s.newA p x)
  newA := fun p x => (t.newA p x).elim (fun z => .inl (s.live p z)) (s.newA p)
theorem Stp.frame {H H' : Hp} {F A F' A' B : AS} (s : Stp H F A H' F' A') : Stp H F (Uni B A) H' F' (Uni B A') :=
  ⟨fun p o e n => s.keep p o e fun x => n (.inr x), s.live, s.mono, fun p x => (s.newF p x).imp_right (·.imp_right .inr), fun p x => x.elim (fun z => .inr (.inl z)) fun z => (s.newA p z).imp_right .inr⟩
theorem Good.kept {H H' : Hp} {F A F' A' B : AS} (g : Good H F B) (s : Stp H F A H' F' A') (g' : Good H' F' A') (d : Dis B A) : Good H' F' B where
  own := fun p x => by
    obtain ⟨n, o, e, m⟩ := g.own p x
    refine ⟨fun f => ?_, o, s.keep p o e fun a => d p x a, m⟩
    rcases s.newF p f with f | f | f
    · exact n f
    · rw [f] at e; cases e
    · exact d p x f
  fro := g'.fro
theorem Stp.apart {H H' : Hp} {F A F' A' B : AS} (g : Good H F B) (s : Stp H F A H' F' A') (d : Dis B A) : Dis B A' := fun p x y => by
  obtain ⟨_, o, e, _⟩ := g.own p x
  rcases s.newA p y with z | z
  · rw [z] at e; cases e
  · exact d p x z
structure RC where
  K : PySem.W.Frag
  cA : Nat → Addr
  cF : Nat → List Str
  con : Nat → V
def exv (p C : Addr) (d : Option Addr) : HO := .ext fun h => ∃ o vs, h.get? p = some o ∧ o.cls = .ref C ∧ o.dict = d ∧ o.data = .fields vs
def setO (p : Addr) (L : List (Addr × CK)) : HO := .ext fun h => ∃ L' es ep t, L'.Perm L ∧ SetC h p L' es ep t
section
variable (c : RC) (H : Hp) (F : AS)
def FzL (p : Addr) (vs : List V) : Prop := Rd H p (.lst vs) ∧ F p
mutual
def R : PV → V → AS → Prop
  | .non, v, _ => v = .non
  | .bl b, v, _ => v = .bl b
  | .int i, v, _ => v = .int i
  | .str x, v, _ => v = .str x ∧ sOk x = true
  | .con k, v, _ => v = c.con k
  | .exc k xs, v, _ => ∃ p d vs, v = .ref p ∧ (H p = some (exv p (c.cA k) d) ∧ F p) ∧ ((xs = [] ∧ d = none) ∨ ∃ dd, d = some dd ∧ xs.length ≤ (c.cF k).length ∧ H dd = some (.xd ((c.cF k).zip vs))) ∧ Rs xs vs Emp
  | .st true xs, v, a => ∃ p L vs, v = .ref p ∧ H p = some (setO p L) ∧ a p ∧ (cksP xs = some (L.map (·.2)) ∧ vs = L.map fun q => V.ref q.1) ∧ Rs xs vs Emp
  | .st false xs, v, _ => ∃ p, v = .ref p ∧ F p
  | .tup xs, v, a => ∃ p vs, v = .ref p ∧ (SqB c.K H p vs ∧ xs.length ≤ sizeLine) ∧ Rs xs vs a
  | .lst true xs, v, a => ∃ p vs a', v = .ref p ∧ xs.length ≤ sizeLine ∧ H p = some (.lst vs) ∧ a p ∧ ¬ a' p ∧ Sub a' a ∧ Rs xs vs a'
  | .lst false xs, v, _ => ∃ p vs, v = .ref p ∧ (FzL H F p vs ∧ xs.length ≤ sizeLine) ∧ Rs xs vs Emp
  | .dct true ks xs, v, a => ∃ p vs a', v = .ref p ∧ (ks.length = xs.length ∧ xs.length ≤ sizeLine) ∧ H p = some (.dK (ks.zip vs)) ∧ a p ∧ ¬ a' p ∧ Sub a' a ∧ Rs xs vs a'
  | .dct false ks xs, v, _ => ∃ p vs, v = .ref p ∧ (ks.length = xs.length ∧ xs.length ≤ sizeLine) ∧ (Rd H p (.dK (ks.zip vs)) ∧ F p) ∧ Rs xs vs Emp
  | .ins true k xs, v, a => ∃ p dx vs a', v = .ref p ∧ xs.length ≤ (c.cF k).length ∧ H p = some (.ins (c.cA k) dx ((c.cF k).zip vs)) ∧ a p ∧ ¬ a' p ∧ Sub a' a ∧ Rs xs vs a'
  | .ins false k xs, v, _ => ∃ p dx vs, v = .ref p ∧ xs.length ≤ (c.cF k).length ∧ (H p = some (.ins (c.cA k) dx ((c.cF k).zip vs)) ∧ F p) ∧ Rs xs vs Emp
def Rs : List PV → List V → AS → Prop
  | [], vs, _ => vs = []
  | x :: xs, vs, a => ∃ v vs' b d, vs = v :: vs' ∧ Sub b a ∧ Sub d a ∧ Dis b d ∧ R x v b ∧ Rs xs vs' d
end
end
section
variable {c : RC} {H H' : Hp} {F F' A A' : AS}
mutual
theorem R.mono : ∀ {x : PV} {v : V} {a b : AS}, R c H F x v a → Sub a b → R c H F x v b
  | .non, _, _, _, h, _ => h
  | .bl _, _, _, _, h, _ => h
  | .int _, _, _, _, h, _ => h
  | .str _, _, _, _, h, _ => h
  | .con _, _, _, _, h, _ => h
  | .exc _ _, _, _, _, h, _ => h
  | .st true _, _, _, _, ⟨p, L, vs, e, q, m, z⟩, s => ⟨p, L, vs, e, q, s p m, z⟩
  | .st false _, _, _, _, h, _ => h
  | .tup xs, _, _, _, ⟨p, vs, e, q, r⟩, s => ⟨p, vs, e, q, Rs.mono r s⟩
  | .lst true xs, _, _, _, ⟨p, vs, a', e, l, q, m, n, t, r⟩, s => ⟨p, vs, a', e, l, q, s p m, n, t.trans s, r⟩
  | .lst false xs, _, _, _, h, _ => h
  | .dct true ks xs, _, _, _, ⟨p, vs, a', e, l, q, m, n, t, r⟩, s => ⟨p, vs, a', e, l, q, s p m, n, t.trans s, r⟩
  | .dct false ks xs, _, _, _, h, _ => h
  | .ins true k xs, _, _, _, ⟨p, dx, vs, a', e, l, q, m, n, t, r⟩, s => ⟨p, dx, vs, a', e, l, q, s p m, n, t.trans s, r⟩
  | .ins false k xs, _, _, _, h, _ => h
theorem Rs.mono : ∀ {xs : List PV} {vs : List V} {a b : AS}, Rs c H F xs vs a → Sub a b → Rs c H F xs vs b
  | [], _, _, _, h, _ => h
  | x :: xs, _, _, _, ⟨v, vs', b, d, e, sb, sd, k, r, rs⟩, s => ⟨v, vs', b, d, e, sb.trans s, sd.trans s, k, r, rs⟩
end
theorem not_mu {p : Addr} {o : HO} (g : Good H F A) (e : H p = some o) (n : ¬ Mu o) : ¬ A p := fun x => by
  obtain ⟨_, o', e', m⟩ := g.own p x
  rw [e] at e'; cases e'
  exact n m
theorem SqT.step {p : Addr} {vs : List V} (g : Good H F A) (s : Stp H F A H' F' A') (h : SqT c.K H p vs) : SqT c.K H' p vs := by
  have nm : ∀ o, H p = some o → ¬ Mu o → ¬ A p := fun o e n x => by
    obtain ⟨_, o', e', m⟩ := g.own p x
    rw [e] at e'; cases e'
    exact n m
  rcases h with (h | ⟨o, h⟩) | h
  · exact .inl (.inl (s.keep _ _ h (nm _ h id)))
  · exact .inl (.inr ⟨o, s.keep _ _ h (nm _ h id)⟩)
  · exact .inr h
theorem SqB.step {p : Addr} {vs : List V} (g : Good H F A) (s : Stp H F A H' F' A') (h : SqB c.K H p vs) : SqB c.K H' p vs := by
  rcases h with ⟨o, h, b⟩ | h
  · exact .inl ⟨o, s.keep _ _ h (not_mu g h id), b⟩
  · exact .inr h
theorem FzL.step {p : Addr} {vs : List V} (g : Good H F A) (s : Stp H F A H' F' A') (h : FzL H F p vs) : FzL H' F' p vs := by
  rcases h with ⟨h | ⟨o, h⟩, f⟩
  · exact ⟨.inl (s.keep _ _ h fun x => (g.own p x).1 f), s.mono p f⟩
  · exact ⟨.inr ⟨o, s.keep _ _ h fun x => (g.own p x).1 f⟩, s.mono p f⟩
mutual
theorem R.step (g : Good H F A) (s : Stp H F A H' F' A') : ∀ {x : PV} {v : V} {a : AS}, R c H F x v a → Dis a A → R c H' F' x v a
  | .non, _, _, h, _ => h
  | .bl _, _, _, h, _ => h
  | .int _, _, _, h, _ => h
  | .str _, _, _, h, _ => h
  | .con _, _, _, h, _ => h
  | .exc k xs, _, _, ⟨p, dd, vs, e, ⟨q, f⟩, z, r⟩, d => ⟨p, dd, vs, e, ⟨s.keep _ _ q fun x => (g.own p x).1 f, s.mono p f⟩, z.imp_right (fun ⟨y, e1, l, h1⟩ => ⟨y, e1, l, s.keep _ _ h1 (not_mu g h1 id)⟩), Rs.step g s r Dis.empl⟩
  | .st true xs, _, _, ⟨p, L, vs, e, q, m, z, r⟩, d => ⟨p, L, vs, e, s.keep _ _ q (fun x => d p m x), m, z, Rs.step g s r Dis.empl⟩
  | .st false xs, _, _, ⟨p, e, f⟩, d => ⟨p, e, s.mono p f⟩
  | .tup xs, _, _, ⟨p, vs, e, ⟨q, l⟩, r⟩, d => ⟨p, vs, e, ⟨SqB.step g s q, l⟩, Rs.step g s r d⟩
  | .lst true xs, _, _, ⟨p, vs, a', e, l, q, m, n, t, r⟩, d => ⟨p, vs, a', e, l, s.keep _ _ q (fun x => d p m x), m, n, t, Rs.step g s r (d.mono t (Sub.refl _))⟩
  | .lst false xs, _, _, ⟨p, vs, e, ⟨q, l⟩, r⟩, d => ⟨p, vs, e, ⟨q.step g s, l⟩, Rs.step g s r Dis.empl⟩
  | .dct true ks xs, _, _, ⟨p, vs, a', e, l, q, m, n, t, r⟩, d => ⟨p, vs, a', e, l, s.keep _ _ q (fun x => d p m x), m, n, t, Rs.step g s r (d.mono t (Sub.refl _))⟩
  | .dct false ks xs, _, _, ⟨p, vs, e, l, ⟨q, f⟩, r⟩, d => ⟨p, vs, e, l, ⟨q.elim (fun q => .inl (s.keep _ _ q fun x => (g.own p x).1 f)) (fun ⟨o, q⟩ => .inr ⟨o, s.keep _ _ q fun x => (g.own p x).1 f⟩), s.mono p f⟩, Rs.step g s r Dis.empl⟩
  | .ins true k xs, _, _, ⟨p, dx, vs, a', e, l, q, m, n, t, r⟩, d => ⟨p, dx, vs, a', e, l, s.keep _ _ q (fun x => d p m x), m, n, t, Rs.step g s r (d.mono t (Sub.refl _))⟩
  | .ins false k xs, _, _, ⟨p, dx, vs, e, l, ⟨q, f⟩, r⟩, d => ⟨p, dx, vs, e, l, ⟨s.keep _ _ q fun x => (g.own p x).1 f, s.mono p f⟩, Rs.step g s r Dis.empl⟩
theorem Rs.step (g : Good H F A) (s : Stp H F A H' F' A') : ∀ {xs : List PV} {vs : List V} {a : AS}, Rs c H F xs vs a → Dis a A → Rs c H' F' xs vs a
  | [], _, _, h, _ => h
  | x :: xs, _, _, ⟨v, vs', b, d, e, sb, sd, k, r, rs⟩, dd => ⟨v, vs', b, d, e, sb, sd, k, R.step g s r (dd.mono sb (Sub.refl _)), Rs.step g s rs (dd.mono sd (Sub.refl _))⟩
end
mutual
theorem R.emp : ∀ {x : PV} {v : V} {a : AS}, R c H F x v a → fro x = true → R c H F x v Emp
  | .non, _, _, h, _ => h
  | .bl _, _, _, h, _ => h
  | .int _, _, _, h, _ => h
  | .str _, _, _, h, _ => h
  | .con _, _, _, h, _ => h
  | .exc _ _, _, _, h, _ => h
  | .st true xs, _, _, h, f => by rw [fro] at f; simp at f
  | .st false xs, _, _, h, _ => h
  | .tup xs, _, _, ⟨p, vs, e, q, r⟩, f => ⟨p, vs, e, q, Rs.emp r (by rw [fro] at f; exact f)⟩
  | .lst true xs, _, _, h, f => by rw [fro] at f; simp at f
  | .lst false xs, _, _, h, _ => h
  | .dct true ks xs, _, _, h, f => by rw [fro] at f; simp at f
  | .dct false ks xs, _, _, h, _ => h
  | .ins true k xs, _, _, h, f => by rw [fro] at f; simp at f
  | .ins false k xs, _, _, h, _ => h
theorem Rs.emp : ∀ {xs : List PV} {vs : List V} {a : AS}, Rs c H F xs vs a → fros xs = true → Rs c H F xs vs Emp
  | [], _, _, h, _ => h
  | x :: xs, _, _, ⟨v, vs', b, d, e, sb, sd, k, r, rs⟩, f => by
    rw [fros] at f; simp only [Bool.and_eq_true] at f
    exact ⟨v, vs', Emp, Emp, e, Sub.emp, Sub.emp, Dis.empl, R.emp r f.1, Rs.emp rs f.2⟩
end
theorem R.up {F' : AS} (hF : Sub F F') : ∀ {x : PV} {v : V} {a : AS}, R c H F x v a → R c H F' x v a := by
  have key : (∀ (x : PV) (v : V) (a : AS), R c H F x v a → R c H F' x v a) := by
    intro x
    refine PV.rec (motive_1 := fun x => ∀ v a, R c H F x v a → R c H F' x v a) (motive_2 := fun xs => ∀ vs a, Rs c H F xs vs a → Rs c H F' xs vs a)
      (fun _ _ h => h) (fun _ _ _ h => h) (fun _ _ _ h => h) (fun _ _ _ h => h) (fun xs ih v a h => ?_) (fun w xs ih v a h => ?_) (fun w ks xs ih v a h => ?_) (fun w k xs ih v a h => ?_) (fun _ _ _ h => h) (fun k xs ih v a h => ?_) (fun w xs ih v a h => ?_) (fun _ _ h => h) (fun x xs i1 i2 vs a h => ?_) x
    · obtain ⟨p, vs, e, q, r⟩ := h; exact ⟨p, vs, e, q, ih _ _ r⟩
    · cases w with
      | true => obtain ⟨p, vs, a', e, l, q, m, n, t, r⟩ := h; exact ⟨p, vs, a', e, l, q, m, n, t, ih _ _ r⟩
      | false => obtain ⟨p, vs, e, ⟨q, l⟩, r⟩ := h; exact ⟨p, vs, e, ⟨⟨q.1, hF p q.2⟩, l⟩, ih _ _ r⟩
    · cases w with
      | true => obtain ⟨p, vs, a', e, l, q, m, n, t, r⟩ := h; exact ⟨p, vs, a', e, l, q, m, n, t, ih _ _ r⟩
      | false => obtain ⟨p, vs, e, l, q, r⟩ := h; exact ⟨p, vs, e, l, ⟨q.1, hF p q.2⟩, ih _ _ r⟩
    · cases w with
      | true => obtain ⟨p, dx, vs, a', e, l, q, m, n, t, r⟩ := h; exact ⟨p, dx, vs, a', e, l, q, m, n, t, ih _ _ r⟩
      | false => obtain ⟨p, dx, vs, e, l, q, r⟩ := h; exact ⟨p, dx, vs, e, l, ⟨q.1, hF p q.2⟩, ih _ _ r⟩
    · obtain ⟨p, d, vs, e, q, z, r⟩ := h; exact ⟨p, d, vs, e, ⟨q.1, hF p q.2⟩, z, ih _ _ r⟩
    · cases w with
      | true => obtain ⟨p, L, vs, e, q, m, z, r⟩ := h; exact ⟨p, L, vs, e, q, m, z, ih _ _ r⟩
      | false => obtain ⟨p, e, f⟩ := h; exact ⟨p, e, hF p f⟩
    · obtain ⟨v, vs', b, d, e, sb, sd, k, r, rs⟩ := h; exact ⟨v, vs', b, d, e, sb, sd, k, i1 _ _ r, i2 _ _ rs⟩
  intro x v a h
  exact key x v a h
theorem Rs.up {F' : AS} (hF : Sub F F') : ∀ {xs : List PV} {vs : List V} {a : AS}, Rs c H F xs vs a → Rs c H F' xs vs a
  | [], _, _, h => h
  | x :: xs, _, _, ⟨v, vs', b, d, e, sb, sd, k, r, rs⟩ => ⟨v, vs', b, d, e, sb, sd, k, R.up hF r, Rs.up hF rs⟩
mutual
theorem R.frz : ∀ {x : PV} {v : V} {a : AS}, R c H F x v a → (∀ p, a p → F p) → R c H F (Tr.frz x) v Emp
  | .non, _, _, h, _ => h
  | .bl _, _, _, h, _ => h
  | .int _, _, _, h, _ => h
  | .str _, _, _, h, _ => h
  | .con _, _, _, h, _ => h
  | .exc k xs, _, _, ⟨p, d, vs, e, q, z, r⟩, s => by
    rw [Tr.frz]
    refine ⟨p, d, vs, e, q, ?_, Rs.frz r fun _ x => x.elim⟩
    rcases z with ⟨z1, z2⟩ | ⟨y, e1, l, h1⟩
    · exact .inl ⟨by rw [z1]; rfl, z2⟩
    · exact .inr ⟨y, e1, by rw [frzs_eq, List.length_map]; exact l, h1⟩
  | .st true xs, _, _, ⟨p, L, vs, e, q, m, z, r⟩, s => by rw [Tr.frz]; exact ⟨p, e, s p m⟩
  | .st false xs, _, _, ⟨p, e, f⟩, s => by rw [Tr.frz]; exact ⟨p, e, f⟩
  | .tup xs, _, _, ⟨p, vs, e, ⟨q, l⟩, r⟩, s => by rw [Tr.frz]; exact ⟨p, vs, e, ⟨q, by rw [frzs_eq, List.length_map]; exact l⟩, Rs.frz r s⟩
  | .lst true xs, _, _, ⟨p, vs, a', e, l, q, m, n, t, r⟩, s => by rw [Tr.frz]; exact ⟨p, vs, e, ⟨⟨.inl q, s p m⟩, by rw [frzs_eq, List.length_map]; exact l⟩, Rs.frz r fun q x => s q (t q x)⟩
  | .lst false xs, _, _, ⟨p, vs, e, ⟨q, l⟩, r⟩, s => by rw [Tr.frz]; exact ⟨p, vs, e, ⟨q, by rw [frzs_eq, List.length_map]; exact l⟩, Rs.frz r fun _ x => x.elim⟩
  | .dct true ks xs, _, _, ⟨p, vs, a', e, l, q, m, n, t, r⟩, s => by rw [Tr.frz]; exact ⟨p, vs, e, (by rw [frzs_eq, List.length_map]; exact l), ⟨.inl q, s p m⟩, Rs.frz r fun q x => s q (t q x)⟩
  | .dct false ks xs, _, _, ⟨p, vs, e, l, q, r⟩, s => by rw [Tr.frz]; exact ⟨p, vs, e, (by rw [frzs_eq, List.length_map]; exact l), q, Rs.frz r fun _ x => x.elim⟩
  | .ins true k xs, _, _, ⟨p, dx, vs, a', e, l, q, m, n, t, r⟩, s => by rw [Tr.frz]; exact ⟨p, dx, vs, e, (by rw [frzs_eq, List.length_map]; exact l), ⟨q, s p m⟩, Rs.frz r fun q x => s q (t q x)⟩
  | .ins false k xs, _, _, ⟨p, dx, vs, e, l, q, r⟩, s => by rw [Tr.frz]; exact ⟨p, dx, vs, e, (by rw [frzs_eq, List.length_map]; exact l), q, Rs.frz r fun _ x => x.elim⟩
theorem Rs.frz : ∀ {xs : List PV} {vs : List V} {a : AS}, Rs c H F xs vs a → (∀ p, a p → F p) → Rs c H F (Tr.frzs xs) vs Emp
  | [], _, _, h, _ => h
  | x :: xs, _, _, ⟨v, vs', b, d, e, sb, sd, k, r, rs⟩, s => by
    rw [Tr.frzs]
    exact ⟨v, vs', Emp, Emp, e, Sub.emp, Sub.emp, Dis.empl, R.frz r fun p x => s p (sb p x), Rs.frz rs fun p x => s p (sd p x)⟩
end
theorem Stp.freeze {a : AS} (sub : Sub a A) : Stp H F A H (Uni F a) (fun p => A p ∧ ¬ a p) :=
  ⟨fun _ _ h _ => h, fun _ h => h, fun _ h => .inl h, fun p h => h.imp_right fun z => .inr (sub p z), fun p h => .inr h.1⟩
theorem Good.freeze {a : AS} (g : Good H F A) (sub : Sub a A) : Good H (Uni F a) (fun p => A p ∧ ¬ a p) :=
  ⟨fun p h => ⟨fun z => z.elim (g.own p h.1).1 h.2, (g.own p h.1).2⟩, fun p h => h.elim (g.fro p) fun z => let ⟨_, o, e, _⟩ := g.own p (sub p z); ⟨o, e⟩⟩
theorem Rs.len : ∀ {xs : List PV} {vs : List V} {a : AS}, Rs c H F xs vs a → vs.length = xs.length
  | [], _, _, h => by rw [show _ = [] from h]; rfl
  | x :: xs, _, _, ⟨v, vs', b, d, e, sb, sd, k, r, rs⟩ => by rw [e, List.length_cons, List.length_cons, rs.len]
theorem Rs.get : ∀ {xs : List PV} {vs : List V} {a : AS} {i : Nat} {x : PV}, Rs c H F xs vs a → xs[i]? = some x → ∃ v b, vs[i]? = some v ∧ Sub b a ∧ R c H F x v b
  | [], _, _, _, _, _, e => by simp at e
  | y :: ys, _, _, 0, x, ⟨v, vs', b, d, e, sb, sd, k, r, rs⟩, h => by
    simp at h; subst h
    exact ⟨v, b, by rw [e]; rfl, sb, r⟩
  | y :: ys, _, _, i + 1, x, ⟨v, vs', b, d, e, sb, sd, k, r, rs⟩, h => by
    obtain ⟨v', b', h1, h2, h3⟩ := rs.get (i := i) (x := x) (by simpa using h)
    exact ⟨v', b', by rw [e]; simpa using h1, h2.trans sd, h3⟩
theorem Rs.append : ∀ {xs ys : List PV} {vs ws : List V} {a b : AS}, Rs c H F xs vs a → Rs c H F ys ws b → Dis a b → Rs c H F (xs ++ ys) (vs ++ ws) (Uni a b)
  | [], ys, vs, ws, a, b, h, k, d => by rw [show vs = [] from h]; exact Rs.mono k Sub.r
  | x :: xs, ys, _, ws, a, b, ⟨v, vs', b1, d1, e, sb, sd, kk, r, rs⟩, k, d => by
    subst e
    refine ⟨v, vs' ++ ws, b1, Uni d1 b, rfl, sb.trans Sub.l, Sub.uni (sd.trans Sub.l) Sub.r, ?_, r, Rs.append rs k (d.mono sd (Sub.refl _))⟩
    exact fun p x y => y.elim (kk p x) fun z => d p (sb p x) z
theorem Rs.one {x : PV} {v : V} {a : AS} (r : R c H F x v a) : Rs c H F [x] [v] a := ⟨v, [], a, Emp, rfl, Sub.refl _, Sub.emp, Dis.empr, r, rfl⟩
theorem Rs.of_emp : ∀ {xs : List PV} {vs : List V}, vs.length = xs.length → (∀ (i : Nat) (x : PV) (v : V), xs[i]? = some x → vs[i]? = some v → R c H F x v Emp) → Rs c H F xs vs Emp
  | [], vs, l, _ => by cases vs with | nil => rfl | cons _ _ => cases l
  | x :: xs, vs, l, h => by
    cases vs with
    | nil => cases l
    | cons v vs => exact ⟨v, vs, Emp, Emp, rfl, Sub.emp, Sub.emp, Dis.empl, h 0 x v rfl rfl, Rs.of_emp (by simpa using l) fun i y w e1 e2 => h (i + 1) y w (by simpa using e1) (by simpa using e2)⟩
end
end Tr
namespace Tr
open PySem PySem.Spec L2
section
variable (c : RC) (H : Hp) (F : AS)
def RE : Env → St → AS → Prop
  | [], σ, _ => σ = []
  | none :: ρ, σ, a => ∃ s σ', σ = s :: σ' ∧ RE ρ σ' a
  | some x :: ρ, σ, a => ∃ v σ' b d, σ = some v :: σ' ∧ Sub b a ∧ Sub d a ∧ Dis b d ∧ R c H F x v b ∧ RE ρ σ' d
end
section
variable {c : RC} {H H' : Hp} {F F' A A' : AS}
theorem RE.len : ∀ {ρ : Env} {σ : St} {a : AS}, RE c H F ρ σ a → σ.length = ρ.length
  | [], _, _, h => by rw [show _ = [] from h]; rfl
  | none :: ρ, _, _, ⟨s, σ', e, h⟩ => by rw [e, List.length_cons, List.length_cons, h.len]
  | some x :: ρ, _, _, ⟨v, σ', b, d, e, _, _, _, _, h⟩ => by rw [e, List.length_cons, List.length_cons, h.len]
theorem RE.mono : ∀ {ρ : Env} {σ : St} {a b : AS}, RE c H F ρ σ a → Sub a b → RE c H F ρ σ b
  | [], _, _, _, h, _ => h
  | none :: ρ, _, _, _, ⟨s, σ', e, h⟩, k => ⟨s, σ', e, h.mono k⟩
  | some x :: ρ, _, _, _, ⟨v, σ', b, d, e, sb, sd, dd, r, h⟩, k => ⟨v, σ', b, d, e, sb.trans k, sd.trans k, dd, r, h⟩
theorem RE.step (g : Good H F A) (s : Stp H F A H' F' A') : ∀ {ρ : Env} {σ : St} {a : AS}, RE c H F ρ σ a → Dis a A → RE c H' F' ρ σ a
  | [], _, _, h, _ => h
  | none :: ρ, _, _, ⟨u, σ', e, h⟩, d => ⟨u, σ', e, RE.step g s h d⟩
  | some x :: ρ, _, _, ⟨v, σ', b, dd, e, sb, sd, k, r, h⟩, d => ⟨v, σ', b, dd, e, sb, sd, k, R.step g s r (d.mono sb (Sub.refl _)), RE.step g s h (d.mono sd (Sub.refl _))⟩
theorem RE.up {F' : AS} (hF : Sub F F') : ∀ {ρ : Env} {σ : St} {a : AS}, RE c H F ρ σ a → RE c H F' ρ σ a
  | [], _, _, h => h
  | none :: ρ, _, _, ⟨u, σ', e, h⟩ => ⟨u, σ', e, RE.up hF h⟩
  | some x :: ρ, _, _, ⟨v, σ', b, dd, e, sb, sd, k, r, h⟩ => ⟨v, σ', b, dd, e, sb, sd, k, R.up hF r, RE.up hF h⟩
theorem slot_cons (o : Option PV) (ρ : Env) : slot (o :: ρ) 0 = o := by cases o <;> rfl
theorem slot_succ (o : Option PV) (ρ : Env) (i : Nat) : slot (o :: ρ) (i + 1) = slot ρ i := rfl
theorem RE.look : ∀ {ρ : Env} {σ : St} {a : AS} {i : Nat} {x : PV}, RE c H F ρ σ a → slot ρ i = some x → ∃ v b, σ[i]? = some (some v) ∧ Sub b a ∧ R c H F x v b
  | [], _, _, _, _, _, e => by simp [slot] at e
  | none :: ρ, _, _, 0, x, _, e => by rw [slot_cons] at e; cases e
  | some y :: ρ, _, _, 0, x, ⟨v, σ', b, d, es, sb, sd, dd, r, h⟩, e => by
    rw [slot_cons] at e; cases e
    exact ⟨v, b, by rw [es]; rfl, sb, r⟩
  | none :: ρ, _, _, i + 1, x, ⟨s, σ', es, h⟩, e => by
    rw [slot_succ] at e
    obtain ⟨v, b, h1, h2, h3⟩ := RE.look (i := i) h e
    exact ⟨v, b, by rw [es]; simpa using h1, h2, h3⟩
  | some y :: ρ, _, _, i + 1, x, ⟨v, σ', b, d, es, sb, sd, dd, r, h⟩, e => by
    rw [slot_succ] at e
    obtain ⟨v', b', h1, h2, h3⟩ := RE.look (i := i) h e
    exact ⟨v', b', by rw [es]; simpa using h1, h2.trans sd, h3⟩
theorem RE.wipe : ∀ {ρ : Env} {σ : St} {a : AS} (i : Nat), RE c H F ρ σ a → RE c H F (ρ.set i none) σ a
  | [], _, _, _, h => h
  | none :: ρ, _, _, 0, h => h
  | some y :: ρ, _, _, 0, ⟨v, σ', b, d, es, sb, sd, dd, r, h⟩ => ⟨some v, σ', es, h.mono sd⟩
  | none :: ρ, _, _, i + 1, ⟨s, σ', es, h⟩ => ⟨s, σ', es, RE.wipe i h⟩
  | some y :: ρ, _, _, i + 1, ⟨v, σ', b, d, es, sb, sd, dd, r, h⟩ => ⟨v, σ', b, d, es, sb, sd, dd, r, RE.wipe i h⟩
theorem RE.take : ∀ {ρ : Env} {σ : St} {a : AS} {i : Nat} {x : PV}, RE c H F ρ σ a → slot ρ i = some x →
    ∃ v b d, σ[i]? = some (some v) ∧ Sub b a ∧ Sub d a ∧ Dis b d ∧ R c H F x v b ∧ RE c H F (ρ.set i none) σ d
  | [], _, _, _, _, _, e => by simp [slot] at e
  | none :: ρ, _, _, 0, x, _, e => by rw [slot_cons] at e; cases e
  | some y :: ρ, _, _, 0, x, ⟨v, σ', b, d, es, sb, sd, dd, r, h⟩, e => by
    rw [slot_cons] at e; cases e
    exact ⟨v, b, d, by rw [es]; rfl, sb, sd, dd, r, some v, σ', es, h⟩
  | none :: ρ, _, _, i + 1, x, ⟨s, σ', es, h⟩, e => by
    rw [slot_succ] at e
    obtain ⟨v, b, d, h1, h2, h3, h4, h5, h6⟩ := RE.take (i := i) h e
    exact ⟨v, b, d, by rw [es]; simpa using h1, h2, h3, h4, h5, s, σ', es, h6⟩
  | some y :: ρ, _, _, i + 1, x, ⟨v, σ', b, d, es, sb, sd, dd, r, h⟩, e => by
    rw [slot_succ] at e
    obtain ⟨v', b', d', h1, h2, h3, h4, h5, h6⟩ := RE.take (i := i) h e
    refine ⟨v', b', Uni b d', by rw [es]; simpa using h1, h2.trans sd, Sub.uni sb (h3.trans sd), ?_, h5, v, σ', b, d', es, Sub.l, Sub.r, dd.mono (Sub.refl _) h3, r, h6⟩
    exact fun p x z => z.elim (fun z => dd p z (h2 p x)) (h4 p x)
theorem RE.put : ∀ {ρ : Env} {σ : St} {a b : AS} {i : Nat} {x : PV} {v : V}, RE c H F ρ σ a → σ[i]? = some (some v) → R c H F x v b → Dis b a → RE c H F (ρ.set i (some x)) σ (Uni b a)
  | [], _, _, _, _, _, _, h, e, _, _ => by rw [show _ = [] from h] at e; simp at e
  | none :: ρ, _, _, _, 0, x, v, ⟨s, σ', es, h⟩, e, r, d => by
    rw [es] at e; simp at e
    exact ⟨v, σ', _, _, by rw [es, e], Sub.l, Sub.r, d, r, h⟩
  | some y :: ρ, _, _, _, 0, x, v, ⟨w, σ', b, dd, es, sb, sd, k, rr, h⟩, e, r, d => by
    rw [es] at e; simp at e
    exact ⟨v, σ', _, _, by rw [es, e], Sub.l, Sub.r, d, r, h.mono sd⟩
  | none :: ρ, _, _, _, i + 1, x, v, ⟨s, σ', es, h⟩, e, r, d => by
    rw [es] at e
    exact ⟨s, σ', es, RE.put (i := i) h (by simpa using e) r d⟩
  | some y :: ρ, _, _, _, i + 1, x, v, ⟨w, σ', b, dd, es, sb, sd, k, rr, h⟩, e, r, d => by
    rw [es] at e
    refine ⟨w, σ', b, _, es, sb.trans Sub.r, Sub.uni Sub.l (sd.trans Sub.r), ?_, rr, RE.put (i := i) h (by simpa using e) r (d.mono (Sub.refl _) sd)⟩
    exact fun p z q => q.elim (fun q => d p q (sb p z)) (k p z)
theorem RE.store : ∀ {ρ : Env} {σ : St} {a b : AS} {i : Nat} {x : PV} {v : V}, RE c H F ρ σ a → i < ρ.length → R c H F x v b → Dis b a → RE c H F (ρ.set i (some x)) (σ.set i (some v)) (Uni b a)
  | [], _, _, _, _, _, _, h, e, _, _ => by simp at e
  | none :: ρ, _, _, _, 0, x, v, ⟨s, σ', es, h⟩, e, r, d => by subst es; exact ⟨v, σ', _, _, rfl, Sub.l, Sub.r, d, r, h⟩
  | some y :: ρ, _, _, _, 0, x, v, ⟨w, σ', b, dd, es, sb, sd, k, rr, h⟩, e, r, d => by subst es; exact ⟨v, σ', _, _, rfl, Sub.l, Sub.r, d, r, h.mono sd⟩
  | none :: ρ, _, _, _, i + 1, x, v, ⟨s, σ', es, h⟩, e, r, d => by
    subst es
    exact ⟨s, σ'.set i (some v), rfl, RE.store (i := i) h (by simpa using e) r d⟩
  | some y :: ρ, _, _, _, i + 1, x, v, ⟨w, σ', b, dd, es, sb, sd, k, rr, h⟩, e, r, d => by
    subst es
    refine ⟨w, σ'.set i (some v), b, _, rfl, sb.trans Sub.r, Sub.uni Sub.l (sd.trans Sub.r), ?_, rr, RE.store (i := i) h (by simpa using e) r (d.mono (Sub.refl _) sd)⟩
    exact fun p z q => q.elim (fun q => d p q (sb p z)) (k p z)
theorem RE.start : ∀ {xs : List PV} {vs : List V} {a : AS} (n : Nat), Rs c H F xs vs a → RE c H F (xs.map some ++ List.replicate n none) (vs.map some ++ List.replicate n none) a
  | [], vs, a, n, h => by
    rw [show vs = [] from h]
    show RE c H F (List.replicate n none) (List.replicate n none) a
    induction n with
    | zero => rfl
    | succ n ih => exact ⟨none, List.replicate n none, rfl, ih⟩
  | x :: xs, _, a, n, ⟨v, vs', b, d, e, sb, sd, k, r, rs⟩ => by
    subst e
    exact ⟨v, _, b, d, rfl, sb, sd, k, r, RE.start n rs⟩
end
def RX (c : RC) (H : Hp) (F : AS) (e : PExc) (cls : Value) (d : Option Addr) : Prop :=
  cls = .ref (c.cA e.cls) ∧ if e.vals = [] then d = none else ∃ dd vs, d = some dd ∧ e.vals.length ≤ (c.cF e.cls).length ∧ H dd = some (.xd ((c.cF e.cls).zip vs)) ∧ Rs c H F e.vals vs Emp
section
variable {α β ν μ : Type} (c : RC) (W : WX)
def Post (rel : Hp → AS → α → ν → AS → Prop) (σ : St) (H : Hp) (F A : AS) (r : Res α) (Q : ν → Hp → Prop) : Prop := match r with
  | .ok v ρ' => ∀ x H' F' a b, Stp H F A H' F' (Uni a b) → Good H' F' (Uni a b) → Dis a b → rel H' F' v x a → RE c H' F' ρ' σ b → Q x H'
  | .er e ρ' => ∀ cls d H' F' b, Stp H F A H' F' b → Good H' F' b → RX c H' F' e cls d → RE c H' F' ρ' σ b → W cls d σ H'
  | .bad => False
def tG (rel : Hp → AS → α → ν → AS → Prop) (f : Env → Res α) : St → Hp → (ν → Hp → Prop) → Prop := fun σ H Q =>
  ∃ ρ F A, Good H F A ∧ RE c H F ρ σ A ∧ Post c W rel σ H F A (f ρ) Q
def relE : Hp → AS → PV → V → AS → Prop := fun H F v x a => R c H F v x a
def relB : Hp → AS → Bool → Bool → AS → Prop := fun _ _ v x _ => x = v
abbrev tEx (f : EF) : TE := tG c W (relE c) f
abbrev tTs (t : TF) : TT := tG c W relB t
end
section
variable {α β ν μ : Type} {c : RC} {W : WX} {rel : Hp → AS → α → ν → AS → Prop} {rel' : Hp → AS → β → μ → AS → Prop} {σ : St} {H H1 : Hp} {F A F1 A1 : AS}
theorem Post.base {r : Res α} {Q : ν → Hp → Prop} (h : Post c W rel σ H F A r Q) (s : Stp H F A H1 F1 A1) : Post c W rel σ H1 F1 A1 r Q := by
  cases r with
  | ok v ρ' => exact fun x H' F' a b t g d r e => h x H' F' a b (s.trans t) g d r e
  | er x ρ' => exact fun cls d H' F' b t g r e => h cls d H' F' b (s.trans t) g r e
  | bad => exact h
theorem Post.sub {r : Res α} {Q : ν → Hp → Prop} (h : Post c W rel σ H F A r Q) (s : Sub A1 A) : Post c W rel σ H F A1 r Q := by
  cases r with
  | ok v ρ' => exact fun x H' F' a b t g d r e => h x H' F' a b (t.more s) g d r e
  | er x ρ' => exact fun cls d H' F' b t g r e => h cls d H' F' b (t.more s) g r e
  | bad => exact h
theorem Post.imp {r : Res α} {Q Q' : ν → Hp → Prop} (h : Post c W rel σ H F A r Q) (k : ∀ x H, Q x H → Q' x H) : Post c W rel σ H F A r Q' := by
  cases r with
  | ok v ρ' => exact fun x H' F' a b t g d r e => k _ _ (h x H' F' a b t g d r e)
  | er x ρ' => exact h
  | bad => exact h
theorem tG.next {f : Env → Res α} {g : α → Env → Res β} {Q : μ → Hp → Prop} {K : ν → Hp → Prop} {ρ : Env} {t b : AS}
    (gd : Good H F A) (st : Sub t A) (sb : Sub b A) (d : Dis t b) (e : RE c H F ρ σ b) (p : Post c W rel' σ H F A ((f ρ).bind g) Q)
    (k : ∀ v x ρ1 H1 F1 a1 b1, Good H1 F1 (Uni t (Uni a1 b1)) → Dis t (Uni a1 b1) → Dis a1 b1 → rel H1 F1 v x a1 → RE c H1 F1 ρ1 σ b1 → Stp H F b H1 F1 (Uni a1 b1) →
      Post c W rel' σ H1 F1 (Uni t (Uni a1 b1)) (g v ρ1) Q → K x H1) : tG c W rel f σ H K := by
  refine ⟨ρ, F, b, gd.sub sb, e, ?_⟩
  have all : ∀ {H1 : Hp} {F1 A1 : AS}, Stp H F b H1 F1 A1 → Stp H F A H1 F1 (Uni t A1) := fun s => (s.frame (B := t)).more (Sub.uni st sb)
  cases q : f ρ with
  | ok v ρ1 =>
    rw [q] at p
    intro x H1 F1 a1 b1 s g1 d1 r e1
    have gt : Good H1 F1 t := (gd.sub st).kept s g1 d
    exact k v x ρ1 H1 F1 a1 b1 (gt.uni g1) (s.apart (gd.sub st) d) d1 r e1 s (Post.base p (all s))
  | er x ρ1 =>
    rw [q] at p
    intro cls dd H1 F1 b1 s g1 r e1
    exact p cls dd H1 F1 b1 ((all s).drop Sub.r) g1 r e1
  | bad => rw [q] at p; exact p.elim
theorem tG.bind {f : Env → Res α} {g : α → Env → Res β} {Q : μ → Hp → Prop} {K : ν → Hp → Prop} (h : tG c W rel' (fun ρ => (f ρ).bind g) σ H Q)
    (k : ∀ v x ρ1 H1 F1 a b, Good H1 F1 (Uni a b) → Dis a b → rel H1 F1 v x a → RE c H1 F1 ρ1 σ b → Post c W rel' σ H1 F1 (Uni a b) (g v ρ1) Q → K x H1) : tG c W rel f σ H K := by
  obtain ⟨ρ, F, A, gd, e, p⟩ := h
  refine tG.next (t := Emp) gd Sub.emp (Sub.refl _) Dis.empl e p fun v x ρ1 H1 F1 a1 b1 g1 _ d r e1 s p1 => ?_
  exact k v x ρ1 H1 F1 a1 b1 (g1.sub Sub.r) d r e1 (p1.sub Sub.r)
theorem tG.imp {f : Env → Res α} {Q Q' : ν → Hp → Prop} (h : tG c W rel f σ H Q) (k : ∀ x H, Q x H → Q' x H) : tG c W rel f σ H Q' := by
  obtain ⟨ρ, F, A, gd, e, p⟩ := h
  exact ⟨ρ, F, A, gd, e, p.imp k⟩
theorem Post.now {v : α} {x : ν} {ρ : Env} {Q : ν → Hp → Prop} {b : AS} (p : Post c W rel σ H F A (.ok v ρ) Q) (g : Good H F A) (sb : Sub b A) (r : rel H F v x Emp) (e : RE c H F ρ σ b) : Q x H :=
  p x H F Emp b (Stp.refl.drop (Sub.uni Sub.emp sb)) (g.sub (Sub.uni Sub.emp sb)) Dis.empl r e
theorem Post.own {v : α} {x : ν} {ρ : Env} {Q : ν → Hp → Prop} {a b : AS} (p : Post c W rel σ H F A (.ok v ρ) Q) (g : Good H F A) (sa : Sub a A) (sb : Sub b A) (d : Dis a b) (r : rel H F v x a) (e : RE c H F ρ σ b) : Q x H :=
  p x H F a b (Stp.refl.drop (Sub.uni sa sb)) (g.sub (Sub.uni sa sb)) d r e
end
def SE (X : Cx) (c : RC) (W : WX) (e : Expr) (f : EF) : Prop := PE X e (tEx c W f)
def ST (X : Cx) (c : RC) (W : WX) (e : Expr) (t : TF) : Prop := PT X e (tTs c W t)
theorem PE.weak {X : Cx} {e : Expr} {t t' : TE} (h : PE X e t) (k : ∀ σ H Q, t' σ H Q → t σ H Q) : PE X e t' := ⟨fun pins s σ H Q I q => h.run pins s σ H Q I (k σ H Q q)⟩
theorem PT.weak {X : Cx} {e : Expr} {t t' : TT} (h : PT X e t) (k : ∀ σ H Q, t' σ H Q → t σ H Q) : PT X e t' := ⟨fun pins s σ H Q I q => h.run pins s σ H Q I (k σ H Q q)⟩
theorem PW.weak {X : Cx} {e : Expr} {t t' : TT} (h : PW X e t) (k : ∀ σ H Q, t' σ H Q → t σ H Q) : PW X e t' := ⟨fun wh pins s σ H Q I q => h.run wh pins s σ H Q I (k σ H Q q)⟩
theorem PS.weak {X : Cx} {e : Stmt} {t t' : TS} (h : PS X e t) (k : ∀ D σ H, t' D σ H → t D σ H) : PS X e t' := ⟨fun pins s σ H D I q => h.run pins s σ H D I (k D σ H q)⟩
theorem PSs.weak {X : Cx} {e : List Stmt} {t t' : TS} (h : PSs X e t) (k : ∀ D σ H, t' D σ H → t D σ H) : PSs X e t' := ⟨fun pins s σ H D I q => h.run pins s σ H D I (k D σ H q)⟩
theorem PE.or {X : Cx} {e : Expr} {t t' : TE} (h : PE X e t) (h' : PE X e t') : PE X e (fun σ H Q => t σ H Q ∨ t' σ H Q) := ⟨fun pins s σ H Q I q => q.elim (h.run pins s σ H Q I) (h'.run pins s σ H Q I)⟩
def tO (c : RC) (W : WX) (o : Opd) : TE := match o with
  | .nm i => tVar i
  | .ev f => tEx c W f
def SO (X : Cx) (c : RC) (W : WX) (e : Expr) (o : Opd) : Prop := PE X e (tO c W o)
theorem so_ev {X : Cx} {c : RC} {W : WX} {e : Expr} {f : EF} (h : SE X c W e f) : SO X c W e (.ev f) := h
theorem so_nm {X : Cx} {c : RC} {W : WX} {e : Expr} {i : Nat} (h : PE X e (tVar i)) : SO X c W e (.nm i) := h
def Tmp (c : RC) (σ : St) (H : Hp) (F : AS) (o : Opd) (t : Option PV) (x : V) (a : AS) : Prop := match o with
  | .nm i => σ[i]? = some (some x)
  | .ev _ => ∃ v, t = some v ∧ R c H F v x a
section
variable {β μ : Type} {c : RC} {W : WX} {rel' : Hp → AS → β → μ → AS → Prop} {σ : St} {H H' : Hp} {F A F' A' : AS}
theorem Tmp.step {o : Opd} {t : Option PV} {x : V} {a : AS} (g : Good H F A) (s : Stp H F A H' F' A') (h : Tmp c σ H F o t x a) (d : Dis a A) : Tmp c σ H' F' o t x a := by
  cases o with
  | nm i => exact h
  | ev f => obtain ⟨v, e, r⟩ := h; exact ⟨v, e, R.step g s r d⟩
theorem Tmp.get {o : Opd} {t : Option PV} {x : V} {a b : AS} {ρ : Env} {v : PV} (h : Tmp c σ H F o t x a) (e : RE c H F ρ σ b) (q : o.get t ρ = some v) : ∃ d, Sub d (Uni a b) ∧ R c H F v x d := by
  cases o with
  | nm i =>
    obtain ⟨w, d, h1, h2, h3⟩ := e.look (i := i) q
    have q1 : σ[i]? = some (some x) := h
    rw [q1] at h1; cases h1
    exact ⟨d, h2.trans Sub.r, h3⟩
  | ev f =>
    obtain ⟨w, e, r⟩ := h
    have : t = some v := q
    rw [this] at e; cases e
    exact ⟨a, Sub.l, r⟩
theorem tO.next {o : Opd} {g : Option PV → Env → Res β} {Q : μ → Hp → Prop} {K : VK} {ρ : Env} {t b : AS}
    (gd : Good H F A) (st : Sub t A) (sb : Sub b A) (d : Dis t b) (e : RE c H F ρ σ b) (p : Post c W rel' σ H F A ((o.go ρ).bind g) Q)
    (k : ∀ u x ρ1 H1 F1 a1 b1, Good H1 F1 (Uni t (Uni a1 b1)) → Dis t (Uni a1 b1) → Dis a1 b1 → Tmp c σ H1 F1 o u x a1 → RE c H1 F1 ρ1 σ b1 → Stp H F b H1 F1 (Uni a1 b1) →
      Post c W rel' σ H1 F1 (Uni t (Uni a1 b1)) (g u ρ1) Q → K x H1) : tO c W o σ H K := by
  cases o with
  | nm i =>
    unfold Opd.go at p
    cases q : slot ρ i with
    | none => simp only [q] at p; exact p.elim
    | some v =>
      simp only [q] at p
      obtain ⟨x, b', h1, _, _⟩ := e.look q
      refine ⟨x, h1, k none x ρ H F Emp b ?_ ?_ Dis.empl h1 e ?_ ?_⟩
      · exact gd.sub (Sub.uni st (Sub.uni Sub.emp sb))
      · exact fun p x y => y.elim (fun z => z) (d p x)
      · exact Stp.refl.drop (Sub.uni Sub.emp (Sub.refl _))
      · exact Post.sub p (Sub.uni st (Sub.uni Sub.emp sb))
  | ev f =>
    refine tG.next (rel := relE c) (f := f) (g := fun v ρ1 => g (some v) ρ1) gd st sb d e (by
      unfold Opd.go at p
      cases q : f ρ with
      | ok v ρ1 => simp only [q] at p; exact p
      | er x ρ1 => simp only [q] at p; exact p
      | bad => simp only [q] at p; exact p) fun v x ρ1 H1 F1 a1 b1 g1 d1 d2 r e1 s p1 => ?_
    exact k (some v) x ρ1 H1 F1 a1 b1 g1 d1 d2 ⟨v, rfl, r⟩ e1 s p1
theorem tO.one {o : Opd} {k : PV → Option β} {Q : μ → Hp → Prop} {K : VK} (h : tG c W rel' (op1 o k) σ H Q)
    (fin : ∀ v x y ρ1 H1 F1 A1 b, Good H1 F1 A1 → Sub b A1 → RE c H1 F1 ρ1 σ b → (∃ a, Sub a A1 ∧ R c H1 F1 v x a) → k v = some y → Post c W rel' σ H1 F1 A1 (.ok y ρ1) Q → K x H1) : tO c W o σ H K := by
  obtain ⟨ρ, F, A, gd, e, p⟩ := h
  refine tO.next (t := Emp) gd Sub.emp (Sub.refl _) Dis.empl e p fun u x ρ1 H1 F1 a1 b1 g1 _ d tm e1 s p1 => ?_
  cases q : o.get u ρ1 with
  | none => simp only [q] at p1; exact p1.elim
  | some v =>
    simp only [q] at p1
    cases q2 : k v with
    | none => simp only [Option.bind_some, q2] at p1; exact p1.elim
    | some y =>
      simp only [Option.bind_some, q2] at p1
      obtain ⟨dd, s1, r⟩ := tm.get e1 q
      exact fin v x y ρ1 H1 F1 _ b1 g1 (Sub.r.trans Sub.r) e1 ⟨dd, s1.trans (Sub.uni (Sub.l.trans Sub.r) (Sub.r.trans Sub.r)), r⟩ q2 p1
theorem tO.two {o o' : Opd} {k : PV → PV → Option β} {Q : μ → Hp → Prop} {K : V → V → Hp → Prop} (h : tG c W rel' (op2 o o' k) σ H Q)
    (fin : ∀ v w x x' y ρ1 H1 F1 A1 b, Good H1 F1 A1 → Sub b A1 → RE c H1 F1 ρ1 σ b → (∃ a, Sub a A1 ∧ R c H1 F1 v x a) → (∃ a, Sub a A1 ∧ R c H1 F1 w x' a) → k v w = some y → Post c W rel' σ H1 F1 A1 (.ok y ρ1) Q → K x x' H1) :
    tO c W o σ H (fun x H1 => tO c W o' σ H1 (fun x' H2 => K x x' H2)) := by
  obtain ⟨ρ, F, A, gd, e, p⟩ := h
  refine tO.next (t := Emp) gd Sub.emp (Sub.refl _) Dis.empl e p fun u x ρ1 H1 F1 a1 b1 g1 _ d tm e1 s p1 => ?_
  refine tO.next (t := a1) (b := b1) g1 (Sub.l.trans Sub.r) (Sub.r.trans Sub.r) d e1 p1 fun u' x' ρ2 H2 F2 a2 b2 g2 d1 d2 tm' e2 s2 p2 => ?_
  have tm2 := tm.step (g1.sub (Sub.r.trans Sub.r)) s2 d
  cases q : o.get u ρ2 with
  | none => simp only [q] at p2; exact p2.elim
  | some v =>
    simp only [q, Option.bind_some] at p2
    cases q' : o'.get u' ρ2 with
    | none => simp only [q'] at p2; exact p2.elim
    | some w =>
      simp only [q', Option.bind_some] at p2
      cases q2 : k v w with
      | none => simp only [q2] at p2; exact p2.elim
      | some y =>
        simp only [q2] at p2
        obtain ⟨dd, s1, r⟩ := tm2.get e2 q
        obtain ⟨dd', s1', r'⟩ := tm'.get e2 q'
        exact fin v w x x' y ρ2 H2 F2 _ b2 g2 (Sub.r.trans Sub.r) e2 ⟨dd, s1.trans (Sub.uni Sub.l (Sub.r.trans Sub.r)), r⟩ ⟨dd', s1'.trans Sub.r, r'⟩ q2 p2
end
end Tr
namespace Tr
open PySem PySem.Spec L2
structure Cok (X : Cx) (c : RC) (k : Nat) : Prop where
  K : X.K = c.K
  hr : Room k X.A
  calm : X.calm = true
  nd : X.N.Nodup
theorem Cok.mono {X : Cx} {c : RC} {j k : Nat} (h : Cok X c k) (l : j ≤ k) : Cok X c j := ⟨h.K, h.hr.mono l, h.calm, h.nd⟩
theorem Cok.blk {X : Cx} {c : RC} {k : Nat} (h : Cok X c k) (s : Shared) (H : Hp) (sc : Scope) (ce : PySem.Env) (fp : List Addr) : Cok (X.blk s H sc ce fp) c k := ⟨h.K, h.hr, h.calm, h.nd⟩
section
variable {c : RC} {W : WX} {σ : L2.St} {H : Hp} {F A b : AS}
def Fin (c : RC) (H : Hp) (F : AS) (z : PV) (Q : VK) : Prop := ∀ x' H' a, Stp H F Emp H' F a → Good H' F a → R c H' F z x' a → Q x' H'
theorem Post.fin {z : PV} {ρ : Env} {Q : VK} (p : Post c W (relE c) σ H F A (.ok z ρ) Q) (g : Good H F A) (sb : Sub b A) (e : RE c H F ρ σ b) : Fin c H F z Q := by
  intro x' H' a s g' r
  have gb := g.sub sb
  have g2 : Good H' F b := gb.kept s g' Dis.empr
  refine p x' H' F a b ⟨fun q o e n => s.keep q o e id, s.live, s.mono, fun q h => .inl h, fun q h => h.elim (fun z => .inl ((s.newA q z).resolve_right id)) fun z => .inr (sb q z)⟩ (g'.uni g2) ?_ r (e.step (g.sub Sub.emp) s Dis.empr)
  intro q h1 h2
  obtain ⟨_, o, eo, _⟩ := gb.own q h2
  rcases s.newA q h1 with z | z
  · rw [z] at eo; cases eo
  · exact z
theorem Fin.now {z : PV} {x : V} {Q : VK} (h : Fin c H F z Q) (g : Good H F Emp) (r : R c H F z x Emp) : Q x H := h x H Emp Stp.refl g r
theorem Stp.new {p : Addr} {o : HO} (hp : H p = none) : Stp H F A (upd H p o) F (Uni A (fun q => q = p)) := by
  refine ⟨fun q u e n => ?_, fun q e => ?_, fun _ h => h, fun _ h => .inl h, fun q h => h.elim .inr fun z => .inl (by rw [z]; exact hp)⟩
  · rw [upd_ne (ne_of_none e hp)]; exact e
  · by_cases z : q = p
    · rw [z]; exact hp
    · rw [upd_ne z] at e; exact e
theorem Stp.newT {p : Addr} {o : HO} (hp : H p = none) : Stp H F A (upd H p o) F A := (Stp.new hp).drop Sub.l
theorem Good.newT {p : Addr} {o : HO} (g : Good H F A) (hp : H p = none) : Good (upd H p o) F A :=
  ⟨fun q h => let ⟨n, u, e, m⟩ := g.own q h; ⟨n, u, by rw [upd_ne (ne_of_none e hp)]; exact e, m⟩, fun q h => let ⟨u, e⟩ := g.fro q h; ⟨u, by rw [upd_ne (ne_of_none e hp)]; exact e⟩⟩
theorem Good.new {p : Addr} {o : HO} (g : Good H F A) (hp : H p = none) (m : Mu o) : Good (upd H p o) F (Uni A (fun q => q = p)) :=
  (g.newT hp).uni ⟨fun q h => by
    subst h
    exact ⟨fun f => (by obtain ⟨u, e⟩ := g.fro q f; rw [hp] at e; cases e), o, upd_same, m⟩, (g.newT hp).fro⟩
theorem Fin.lst {xs : List PV} {vs : List V} {Q : VK} (h : Fin c H F (.lst true xs) Q) (g : Good H F Emp) (r : Rs c H F xs vs Emp) (l : xs.length ≤ big) {p : Addr} (hp : H p = none) : Q (.ref p) (upd H p (.lst vs)) := by
  have g1 : Good (upd H p (.lst vs)) F (fun q => q = p) := (g.new hp (o := .lst vs) trivial).sub Sub.r
  refine h (.ref p) _ (fun q => q = p) ((Stp.new hp).drop Sub.r) g1 ?_
  exact ⟨p, vs, Emp, rfl, l, upd_same, rfl, id, Sub.emp, Rs.step g (Stp.newT (A := Emp) hp) r Dis.empl⟩
theorem Fin.tup {xs : List PV} {vs : List V} {Q : VK} (h : Fin c H F (.tup xs) Q) (g : Good H F Emp) (r : Rs c H F xs vs Emp) (l : xs.length ≤ big) {p : Addr} {o : Obj} (hp : H p = none) (hb : TB o) : Q (.ref p) (upd H p (.frz o (.tup vs))) := by
  refine h (.ref p) _ Emp (Stp.newT hp) (g.newT hp) ?_
  exact ⟨p, vs, rfl, ⟨SqB.of upd_same hb, l⟩, Rs.step g (Stp.newT (A := Emp) hp) r Dis.empl⟩
end
section
variable {X : Cx} {c : RC} {W : WX} {k : Nat} {pos : Pos}
theorem se_of {e : Expr} {v : V} {x : PV} (h : PE X e (tC v)) (r : ∀ H F, R c H F x v Emp) : SE X c W e (eC x) := by
  refine PE.weak h fun σ H Q q => ?_
  obtain ⟨ρ, F, A, g, e, p⟩ := q
  exact p.now g (Sub.refl _) (r H F) e
theorem se_int {i : Int} {j pos} : SE X c W (.Constant (.int i) j pos) (eC (.int i)) := se_of pe_int fun _ _ => rfl
theorem se_bl {b : Bool} {j pos} : SE X c W (.Constant (.bool b) j pos) (eC (.bl b)) := se_of pe_bl fun _ _ => rfl
theorem se_non {j pos} : SE X c W (.Constant .none j pos) (eC .non) := se_of pe_non fun _ _ => rfl
theorem se_str {x : Str} {j pos} (h : sOk x = true) : SE X c W (.Constant (.str x) j pos) (eC (.str x)) := se_of pe_str fun _ _ => ⟨rfl, h⟩
theorem se_nm {i : Nat} {x : Str} (h : PE X (.Name x pos) (tVar i)) : SE X c W (.Name x pos) (eNm i) := by
  refine PE.weak h fun σ H Q q => ?_
  obtain ⟨ρ, F, A, g, e, p⟩ := q
  unfold eNm at p
  cases q : slot ρ i with
  | none => simp only [q] at p; exact p.elim
  | some v =>
    simp only [q] at p
    obtain ⟨x, a, d, h1, h2, h3, h4, h5, h6⟩ := e.take q
    have r : R c H (Uni F a) (frz v) x Emp := R.frz (R.up Sub.l h5) fun _ z => .inr z
    have e2 : RE c H (Uni F a) ((ρ.set i none).set i (some (frz v))) σ (Uni Emp d) := RE.put (RE.up Sub.l h6) h1 r Dis.empl
    rw [List.set_set] at e2
    have sd : Sub (Uni Emp (Uni Emp d)) (fun p => A p ∧ ¬ a p) := fun q z => z.elim False.elim fun z => z.elim False.elim fun z => ⟨h3 q z, fun y => h4 q y z⟩
    exact ⟨x, h1, p x H _ Emp _ ((Stp.freeze h2).drop sd) ((g.freeze h2).sub sd) Dis.empl r e2⟩
theorem se_mv {i : Nat} {x : Str} (h : PE X (.Name x pos) (tVar i)) : SE X c W (.Name x pos) (eMv i) := by
  refine PE.weak h fun σ H Q q => ?_
  obtain ⟨ρ, F, A, g, e, p⟩ := q
  unfold eMv at p
  cases q : slot ρ i with
  | none => simp only [q] at p; exact p.elim
  | some v =>
    simp only [q] at p
    obtain ⟨x, a, d, h1, h2, h3, h4, h5, h6⟩ := e.take q
    exact ⟨x, h1, p.own g h2 h3 h4 h5 h6⟩
end
section
variable {X : Cx} {c : RC} {W : WX} {k : Nat} {pos : Pos}
def relL (c : RC) : Hp → AS → List PV → List V → AS → Prop := fun H F v x a => Rs c H F v x a
def SA (X : Cx) (c : RC) (W : WX) (es : List Expr) (g : AF) : Prop := PA X es (tG c W (relL c) g)
theorem PA.weak {es : List Expr} {t t' : TA} (h : PA X es t) (k : ∀ σ H Q, t' σ H Q → t σ H Q) : PA X es t' := ⟨fun pos pins s σ H Q I q => h.run pos pins s σ H Q I (k σ H Q q)⟩
theorem sa_nil : SA X c W [] aNil := by
  refine PA.weak pa_nil fun σ H Q q => ?_
  obtain ⟨ρ, F, A, g, e, p⟩ := q
  exact p.now g (Sub.refl _) rfl e
theorem sa_cons {e : Expr} {es : List Expr} {f : EF} {g : AF} (h : SE X c W e f) (hs : SA X c W es g) (st : starEach (e :: es) X.env = (false, eval e X.env) :: starEach es X.env := by rfl) : SA X c W (e :: es) (aCons f g) := by
  refine PA.weak (pa_cons h hs st) fun σ H Q q => ?_
  refine tG.bind q fun v x ρ1 H1 F1 a b g1 d r e1 p1 => ?_
  refine tG.next (t := a) g1 Sub.l Sub.r d e1 p1 fun vs xs ρ2 H2 F2 a2 b2 g2 d2 d3 r2 e2 s2 p2 => ?_
  have r' : R c H2 F2 v x a := R.step (g1.sub Sub.r) s2 r d
  refine p2.own (a := Uni a a2) (b := b2) g2 (Sub.uni Sub.l (Sub.l.trans Sub.r)) (Sub.r.trans Sub.r) ?_ ⟨x, xs, a, a2, rfl, Sub.l, Sub.r, fun q y z => d2 q y (.inl z), r', r2⟩ e2
  exact Dis.uni (fun q y z => d2 q y (.inr z)) d3
theorem se_tup {es : List Expr} {x1 pos} {g : AF} (h : SA X c W es g) (hl : es.length ≤ big := by decide) (hn : ∀ ρ vs ρ', g ρ = .ok vs ρ' → vs.length = es.length) : SE X c W (.Tuple es x1 pos) (eTup g) := by
  refine PE.weak (pe_tupB h) fun σ H Q q => ?_
  obtain ⟨ρ, F, A, g0, e, p⟩ := q
  refine ⟨ρ, F, A, g0, e, ?_⟩
  unfold eTup at p
  cases q : g ρ with
  | bad => rw [q] at p; exact p.elim
  | er x ρ1 => rw [q] at p; exact p
  | ok vs ρ1 =>
    rw [q] at p
    intro xs H1 F1 a b s g1 d r e1
    have l : vs.length ≤ big := by rw [hn _ _ _ q]; exact hl
    refine ⟨by rw [Rs.len r]; exact l, fun pp o hp hb => ?_⟩
    have st := s.trans (Stp.newT (o := HO.frz o (HO.tup xs)) hp)
    exact p _ _ F1 a b st (g1.newT hp) d ⟨pp, xs, rfl, ⟨SqB.of upd_same hb, l⟩, Rs.step (g1.sub Sub.emp) (Stp.newT (A := Emp) hp) r Dis.empr⟩ (e1.step (g1.sub Sub.emp) (Stp.newT (A := Emp) hp) Dis.empr)
theorem se_lst {es : List Expr} {pos} {g : AF} (h : SA X c W es g) (hl : es.length ≤ big := by decide) (hn : ∀ ρ vs ρ', g ρ = .ok vs ρ' → vs.length = es.length) : SE X c W (.List es pos) (eLst g) := by
  refine PE.weak (pe_lst h) fun σ H Q q => ?_
  obtain ⟨ρ, F, A, g0, e, p⟩ := q
  refine ⟨ρ, F, A, g0, e, ?_⟩
  unfold eLst at p
  cases q : g ρ with
  | bad => rw [q] at p; exact p.elim
  | er x ρ1 => rw [q] at p; exact p
  | ok vs ρ1 =>
    rw [q] at p
    intro xs H1 F1 a b s g1 d r e1
    have l : vs.length ≤ big := by rw [hn _ _ _ q]; exact hl
    refine ⟨by rw [Rs.len r]; exact l, fun pp hp => ?_⟩
    have st := s.trans (Stp.new (A := Uni a b) (o := HO.lst xs) hp)
    have gn := g1.new hp (o := HO.lst xs) trivial
    have nf : ∀ q, Uni a b q → q ≠ pp := fun q z e2 => by
      obtain ⟨_, o, eo, _⟩ := g1.own q z
      rw [e2, hp] at eo; cases eo
    refine p _ _ F1 (Uni a (fun q => q = pp)) b (st.drop ?_) (gn.sub ?_) ?_ ?_ (e1.step (g1.sub Sub.emp) (Stp.newT (A := Emp) hp) Dis.empr)
    · exact Sub.uni (Sub.uni (Sub.l.trans Sub.l) Sub.r) (Sub.r.trans Sub.l)
    · exact Sub.uni (Sub.uni (Sub.l.trans Sub.l) Sub.r) (Sub.r.trans Sub.l)
    · exact Dis.uni d fun q y z => nf q (.inr z) y
    · exact ⟨pp, xs, a, rfl, l, upd_same, .inr rfl, fun z => nf pp (.inl z) rfl, Sub.l, Rs.step (g1.sub Sub.emp) (Stp.newT (A := Emp) hp) r Dis.empr⟩
theorem aNil_len : ∀ ρ vs ρ', aNil ρ = .ok vs ρ' → vs.length = 0 := by
  intro ρ vs ρ' h
  unfold aNil at h; cases h; rfl
theorem aCons_len {f : EF} {g : AF} {n : Nat} (h : ∀ ρ vs ρ', g ρ = .ok vs ρ' → vs.length = n) : ∀ ρ vs ρ', aCons f g ρ = .ok vs ρ' → vs.length = n + 1 := by
  intro ρ vs ρ' e
  unfold aCons at e
  cases q : f ρ with
  | bad => rw [q] at e; cases e
  | er x y => rw [q] at e; cases e
  | ok v ρ1 =>
    rw [q] at e
    cases q2 : g ρ1 with
    | bad => simp only [Res.bind_ok, q2, Res.bind_bad] at e; cases e
    | er x y => simp only [Res.bind_ok, q2, Res.bind_er] at e; cases e
    | ok ws ρ2 =>
      simp only [Res.bind_ok, q2] at e
      cases e
      rw [List.length_cons, h _ _ _ q2]
end
section
variable {X : Cx} {c : RC} {W : WX} {k : Nat} {pos : Pos} {a b : Expr} {rest : List Expr} {f g : EF} {t u : TF}
theorem tE_bl {f : EF} {σ : L2.St} {H : Hp} {Q : Bool → Hp → Prop} (q : tTs c W (tE f) σ H Q) : tEx c W f σ H fun x H1 => ∃ d, x = V.bl d ∧ Q d H1 := by
  obtain ⟨ρ, F, A, gd, e, p⟩ := q
  refine ⟨ρ, F, A, gd, e, ?_⟩
  unfold tE at p
  cases q : f ρ with
  | bad => rw [q] at p; exact p.elim
  | er x ρ1 => rw [q] at p; exact p
  | ok v ρ1 =>
    rw [q] at p
    cases v with
    | bl d =>
      intro x H1 F1 a b s g1 dd r e1
      exact ⟨d, r, p d H1 F1 a b s g1 dd rfl e1⟩
    | _ => exact p.elim
theorem eT_bl {t : TF} {σ : L2.St} {H : Hp} {Q : VK} (q : tEx c W (eT t) σ H Q) : tTs c W t σ H fun d H1 => Q (.bl d) H1 := by
  obtain ⟨ρ, F, A, gd, e, p⟩ := q
  refine ⟨ρ, F, A, gd, e, ?_⟩
  unfold eT at p
  cases q : t ρ with
  | bad => rw [q] at p; exact p.elim
  | er x ρ1 => rw [q] at p; exact p
  | ok v ρ1 =>
    rw [q] at p
    intro x H1 F1 a b s g1 dd r e1
    cases (show x = v from r)
    exact p (.bl v) H1 F1 a b s g1 dd rfl e1
theorem st_val (h : SE X c W a f) (he : ∀ whole, isTrue a X.env whole = (do let v ← whole; standAt a.pos; holding [v] (truthy v)) := by intro _; rfl) : ST X c W a (tE f) :=
  PT.weak (pt_val h he) fun σ H Q q => tE_bl q
theorem st_not (h : ST X c W a t) : ST X c W (.UnaryOp .Not a pos) (tNot t) := by
  refine PT.weak (pt_not h) fun σ H Q q => ?_
  refine tG.bind q fun v x ρ1 H1 F1 a b g1 d r e1 p1 => ?_
  cases (show x = v from r)
  exact p1.now g1 Sub.r rfl e1
def SW (X : Cx) (c : RC) (W : WX) (e : Expr) (t : TF) : Prop := PW X e (tTs c W t)
theorem SW.st (h : SW X c W a t) : ST X c W a t := PW.pt h
theorem sw_or1 (h : ST X c W a t) : SW X c W (.BoolOp .Or [a] pos) t := pw_or1 h
theorem sw_or (h : ST X c W a t) (hs : SW X c W (.BoolOp .Or (b :: rest) pos) u) : SW X c W (.BoolOp .Or (a :: b :: rest) pos) (tOr t u) := by
  refine PW.weak (pw_or h hs) fun σ H Q q => ?_
  refine tG.bind q fun v x ρ1 H1 F1 a b g1 d r e1 p1 => ?_
  cases (show x = v from r)
  cases v with
  | true => rw [if_pos rfl]; rw [if_pos rfl] at p1; exact p1.now g1 Sub.r rfl e1
  | false => rw [if_neg Bool.false_ne_true]; rw [if_neg Bool.false_ne_true] at p1; exact ⟨ρ1, F1, _, g1.sub Sub.r, e1, p1.sub Sub.r⟩
theorem se_one {op} (h : SE X c W a f) : SE X c W (.BoolOp op [a] pos) f := pe_one h
def eAnd (t : TF) (g : EF) : EF := fun ρ => (t ρ).bind fun b ρ1 => if b = true then g ρ1 else .ok (.bl false) ρ1
theorem se_and (h : SE X c W a f) (hs : SE X c W (.BoolOp .And (b :: rest) pos) g) : SE X c W (.BoolOp .And (a :: b :: rest) pos) (eAnd (tE f) g) := by
  refine PE.weak (pe_and h hs) fun σ H Q q => ?_
  refine tE_bl (Q := fun d H1 => if d = true then tEx c W g σ H1 Q else Q (.bl false) H1) ?_
  refine tG.bind (rel := relB) q fun v x ρ1 H1 F1 a b g1 d r e1 p1 => ?_
  cases (show x = v from r)
  cases v with
  | true => rw [if_pos rfl]; rw [if_pos rfl] at p1; exact ⟨ρ1, F1, _, g1.sub Sub.r, e1, p1.sub Sub.r⟩
  | false => rw [if_neg Bool.false_ne_true]; rw [if_neg Bool.false_ne_true] at p1; exact p1.now g1 Sub.r rfl e1
theorem se_if {d : Expr} (hc : ST X c W d t) (ha : SE X c W a f) (hb : SE X c W b g) : SE X c W (.IfExp d a b pos) (eIf t f g) := by
  refine PE.weak (pe_ifExp hc ha hb) fun σ H Q q => ?_
  refine tG.bind (rel := relB) q fun v x ρ1 H1 F1 a b g1 d r e1 p1 => ?_
  cases (show x = v from r)
  cases v with
  | true => rw [if_pos rfl]; rw [if_pos rfl] at p1; exact ⟨ρ1, F1, _, g1.sub Sub.r, e1, p1.sub Sub.r⟩
  | false => rw [if_neg Bool.false_ne_true]; rw [if_neg Bool.false_ne_true] at p1; exact ⟨ρ1, F1, _, g1.sub Sub.r, e1, p1.sub Sub.r⟩
end
section
variable {X : Cx} {c : RC} {W : WX} {pos : Pos} {a b d : Expr} {oa ob od : Opd}
def K1 (c : RC) (r : V → Hp → VK → Prop) (k : PV → Option PV) : Prop := ∀ v z x H F Q A, Good H F Emp → R c H F v x A → k v = some z → Fin c H F z Q → r x H Q
def K2 (c : RC) (r : R2) (k : PV → PV → Option PV) : Prop := ∀ v w z x y H F Q A B, Good H F Emp → R c H F v x A → R c H F w y B → k v w = some z → Fin c H F z Q → r x y H Q
def C1 (c : RC) (r : V → Hp → VK → Prop) (k : PV → Option Bool) : Prop := ∀ v z x H F Q A, Good H F Emp → R c H F v x A → k v = some z → Q (.bl z) H → r x H Q
def C2 (c : RC) (r : R2) (k : PV → PV → Option Bool) : Prop := ∀ v w z x y H F Q A B, Good H F Emp → R c H F v x A → R c H F w y B → k v w = some z → Q (.bl z) H → r x y H Q
theorem two_k {r : R2} {k : PV → PV → Option PV} (hk : K2 c r k) {σ : L2.St} {H : Hp} {Q : VK} (q : tEx c W (eP2 k oa ob) σ H Q) : tO c W oa σ H fun x H1 => tO c W ob σ H1 fun y H2 => r x y H2 Q :=
  tO.two q fun v w x x' y ρ1 H1 F1 A1 bb g sb e ⟨_, _, r1⟩ ⟨_, _, r2⟩ kk p => hk v w y x x' H1 F1 Q _ _ (g.sub Sub.emp) r1 r2 kk (p.fin g sb e)
theorem two_c {r : R2} {k : PV → PV → Option Bool} (hk : C2 c r k) {σ : L2.St} {H : Hp} {Q : Bool → Hp → Prop} (q : tTs c W (tPV2 k oa ob) σ H Q) : tO c W oa σ H fun x H1 => tO c W ob σ H1 fun y H2 => r x y H2 fun z H3 => ∃ d, z = .bl d ∧ Q d H3 :=
  tO.two q fun v w x x' y ρ1 H1 F1 A1 bb g sb e ⟨_, _, r1⟩ ⟨_, _, r2⟩ kk p => hk v w y x x' H1 F1 _ _ _ (g.sub Sub.emp) r1 r2 kk ⟨y, rfl, p.now g sb rfl e⟩
theorem one_k {r : V → Hp → VK → Prop} {k : PV → Option PV} (hk : K1 c r k) {σ : L2.St} {H : Hp} {Q : VK} (q : tEx c W (eP1 k oa) σ H Q) : tO c W oa σ H fun x H1 => r x H1 Q :=
  tO.one q fun v x y ρ1 H1 F1 A1 bb g sb e ⟨_, _, r1⟩ kk p => hk v y x H1 F1 Q _ (g.sub Sub.emp) r1 kk (p.fin g sb e)
theorem one_c {r : V → Hp → VK → Prop} {k : PV → Option Bool} (hk : C1 c r k) {σ : L2.St} {H : Hp} {Q : Bool → Hp → Prop} (q : tTs c W (tPV k oa) σ H Q) : tO c W oa σ H fun x H1 => r x H1 fun z H3 => ∃ d, z = .bl d ∧ Q d H3 :=
  tO.one q fun v x y ρ1 H1 F1 A1 bb g sb e ⟨_, _, r1⟩ kk p => hk v y x H1 F1 _ _ (g.sub Sub.emp) r1 kk ⟨y, rfl, p.now g sb rfl e⟩
theorem se_bin {op : Operator} {r : R2} {k : PV → PV → Option PV} (ho : OpR X (binaryOp op) r) (hk : K2 c r k) (ha : SO X c W a oa) (hb : SO X c W b ob) : SE X c W (.BinOp a op b pos) (eP2 k oa ob) :=
  PE.weak (pe_op ho ha hb) fun σ H Q q => two_k hk q
theorem se_un {op : UnaryOp} {r : V → Hp → VK → Prop} {k : PV → Option PV} (ho : UnR X (unaryOp op) r) (hk : K1 c r k) (ha : SO X c W a oa) : SE X c W (.UnaryOp op a pos) (eP1 k oa) :=
  PE.weak (pe_un ho ha) fun σ H Q q => one_k hk q
theorem st_cmp {op : CmpOp} {r : R2} {k : PV → PV → Option Bool} (ho : OpR X (compareOp op) r) (hk : C2 c r k) (ha : SO X c W a oa) (hb : SO X c W b ob) (hm : behindInMarks op b = false) : ST X c W (.Compare a [op] [b] pos) (tPV2 k oa ob) :=
  PT.weak (pt_cmpR ho ha hb hm) fun σ H Q q => two_c hk q
theorem se_cmp {op : CmpOp} {r : R2} {k : PV → PV → Option Bool} (ho : OpR X (compareOp op) r) (hk : C2 c r k) (ha : SO X c W a oa) (hb : SO X c W b ob) (hm : behindInMarks op b = false) : SE X c W (.Compare a [op] [b] pos) (eT (tPV2 k oa ob)) :=
  PE.weak (pe_cmpR ho ha hb hm) fun σ H Q q => tO.two (eT_bl q) fun v w x x' y ρ1 H1 F1 A1 bb g sb e ⟨_, _, r1⟩ ⟨_, _, r2⟩ kk p => hk v w y x x' H1 F1 _ _ _ (g.sub Sub.emp) r1 r2 kk (p.now g sb rfl e)
theorem se_call1 {id : String} {x : Str} {p : Pos} {r : List V → Hp → VK → Prop} {k : PV → Option PV} (hc : CallR X (.builtin id) r) (hk : K1 c (fun v => r [v]) k) (hg : Gl X x) (hm : X.mg x = none) (hv : bootBuiltins x = some (.builtin id)) (ha : SO X c W a oa)
    (hn : x ≠ "__name__" := by decide) (hdb : (x == ("__debug__" : Str)) = false := by decide) (st : starEach [a] X.env = (false, eval a X.env) :: starEach [] X.env := by rfl) (he : (backTo pos (starEach [] X.env)).any (·.1) = false := by rfl) :
    SE X c W (.Call (.Name x p) [a] [] pos) (eP1 k oa) :=
  PE.weak (pe_callB hc hg hm hv (pa_cons ha pa_nil st) hn hdb st he) fun σ H Q q => one_k hk q
theorem se_call2 {id : String} {x : Str} {p : Pos} {r : List V → Hp → VK → Prop} {k : PV → PV → Option PV} (hc : CallR X (.builtin id) r) (hk : K2 c (fun v w => r [v, w]) k) (hg : Gl X x) (hm : X.mg x = none) (hv : bootBuiltins x = some (.builtin id)) (ha : SO X c W a oa) (hb : SO X c W b ob)
    (hn : x ≠ "__name__" := by decide) (hdb : (x == ("__debug__" : Str)) = false := by decide) (st : starEach [a, b] X.env = (false, eval a X.env) :: starEach [b] X.env := by rfl) (st2 : starEach [b] X.env = (false, eval b X.env) :: starEach [] X.env := by rfl) (he : (backTo pos (starEach [b] X.env)).any (·.1) = false := by rfl) :
    SE X c W (.Call (.Name x p) [a, b] [] pos) (eP2 k oa ob) :=
  PE.weak (pe_callB hc hg hm hv (pa_cons ha (pa_cons hb pa_nil st2) st) hn hdb st he) fun σ H Q q => two_k hk q
theorem se_ty1 {T : String} {x : Str} {p : Pos} {r : List V → Hp → VK → Prop} {k : PV → Option PV} (hc : CallR X (.type T) r) (hk : K1 c (fun v => r [v]) k) (hg : Gl X x) (hm : X.mg x = none) (hv : bootBuiltins x = some (.type T)) (ha : SO X c W a oa)
    (hn : x ≠ "__name__" := by decide) (hdb : (x == ("__debug__" : Str)) = false := by decide) (st : starEach [a] X.env = (false, eval a X.env) :: starEach [] X.env := by rfl) (he : (backTo pos (starEach [] X.env)).any (·.1) = false := by rfl) :
    SE X c W (.Call (.Name x p) [a] [] pos) (eP1 k oa) :=
  PE.weak (pe_callTy hc hg hm hv (pa_cons ha pa_nil st) hn hdb st he) fun σ H Q q => one_k hk q
end
end Tr
namespace Tr
open PySem PySem.Spec L2
section
variable {c : RC} {H : Hp} {F A : AS}
theorem R.lstR {w : Bool} {xs : List PV} {x : V} {a : AS} (r : R c H F (.lst w xs) x a) : ∃ p vs b, x = .ref p ∧ Rd H p (.lst vs) ∧ xs.length ≤ big ∧ Sub b a ∧ Rs c H F xs vs b := by
  cases w with
  | true => obtain ⟨p, vs, a', e, l, q, m, n, t, r⟩ := r; exact ⟨p, vs, a', e, .inl q, l, t, r⟩
  | false => obtain ⟨p, vs, e, ⟨q, l⟩, r⟩ := r; exact ⟨p, vs, Emp, e, q.1, l, Sub.emp, r⟩
theorem R.tupR {xs : List PV} {x : V} {a : AS} (r : R c H F (.tup xs) x a) : ∃ p vs, x = .ref p ∧ SqT c.K H p vs ∧ xs.length ≤ big ∧ Rs c H F xs vs a := by
  obtain ⟨p, vs, e, ⟨q, l⟩, r⟩ := r; exact ⟨p, vs, e, q.sq, l, r⟩
theorem R.tupB {xs : List PV} {x : V} {a : AS} (r : R c H F (.tup xs) x a) : ∃ p vs, x = .ref p ∧ SqB c.K H p vs ∧ xs.length ≤ big ∧ Rs c H F xs vs a := by
  obtain ⟨p, vs, e, ⟨q, l⟩, r⟩ := r; exact ⟨p, vs, e, q, l, r⟩
theorem R.dctR {w : Bool} {ks : List Key} {xs : List PV} {x : V} {a : AS} (r : R c H F (.dct w ks xs) x a) : ∃ p vs b, x = .ref p ∧ Rd H p (.dK (ks.zip vs)) ∧ ks.length = xs.length ∧ xs.length ≤ big ∧ Sub b a ∧ Rs c H F xs vs b := by
  cases w with
  | true => obtain ⟨p, vs, a', e, l, q, m, n, t, r⟩ := r; exact ⟨p, vs, a', e, .inl q, l.1, l.2, t, r⟩
  | false => obtain ⟨p, vs, e, l, q, r⟩ := r; exact ⟨p, vs, Emp, e, q.1, l.1, l.2, Sub.emp, r⟩
theorem Rs.at {xs : List PV} {vs : List V} {a : AS} {i : Int} {x : PV} (r : Rs c H F xs vs a) (h : atI xs i = some x) (f : fro x = true) : ∃ v, L2.atI vs i = some v ∧ R c H F x v Emp := by
  unfold atI at h
  cases q : ixN xs.length i with
  | none => rw [q] at h; cases h
  | some j =>
    rw [q] at h
    obtain ⟨v, b, h1, _, h3⟩ := r.get (i := j) h
    refine ⟨v, ?_, R.emp h3 f⟩
    show (L2.ixN vs.length i).bind (fun j => vs[j]?) = some v
    rw [r.len, show L2.ixN xs.length i = some j from q]
    exact h1
theorem Rs.take : ∀ {xs : List PV} {vs : List V} (n : Nat), Rs c H F xs vs Emp → Rs c H F (xs.take n) (vs.take n) Emp
  | xs, vs, n, r => by
    refine Rs.of_emp (by rw [List.length_take, List.length_take, r.len]) fun i x v e1 e2 => ?_
    rw [List.getElem?_take] at e1 e2
    by_cases h : i < n
    · rw [if_pos h] at e1 e2
      obtain ⟨v', b, h1, h2, h3⟩ := r.get e1
      rw [h1] at e2; cases e2
      exact R.mono h3 h2
    · rw [if_neg h] at e1; cases e1
theorem Rs.drop {xs : List PV} {vs : List V} (n : Nat) (r : Rs c H F xs vs Emp) : Rs c H F (xs.drop n) (vs.drop n) Emp := by
  refine Rs.of_emp (by rw [List.length_drop, List.length_drop, r.len]) fun i x v e1 e2 => ?_
  rw [List.getElem?_drop] at e1 e2
  obtain ⟨v', b, h1, h2, h3⟩ := r.get e1
  rw [h1] at e2; cases e2
  exact R.mono h3 h2
theorem Rs.cut {xs : List PV} {vs : List V} {lo hi : Option Int} (r : Rs c H F xs vs Emp) : Rs c H F (cut xs lo hi) (cutV vs lo hi) Emp := by
  unfold Tr.cut cutV
  rw [r.len]
  exact (r.drop _).take _
theorem Rs.rev {xs : List PV} {vs : List V} (r : Rs c H F xs vs Emp) : Rs c H F xs.reverse vs.reverse Emp := by
  refine Rs.of_emp (by rw [List.length_reverse, List.length_reverse, r.len]) fun i x v e1 e2 => ?_
  have hi : i < xs.length := by
    have := (List.getElem?_eq_some_iff.mp e1).1
    rwa [List.length_reverse] at this
  rw [List.getElem?_reverse hi] at e1
  rw [List.getElem?_reverse (by rw [r.len]; exact hi), r.len] at e2
  obtain ⟨v', b, h1, h2, h3⟩ := r.get e1
  rw [h1] at e2; cases e2
  exact R.mono h3 h2
theorem Rs.bls : ∀ {xs : List PV} {vs : List V} {a : AS} {is : List Bool}, Rs c H F xs vs a → Tr.bls xs = some is → vs = is.map V.bl
  | [], vs, _, _, r, h => by cases h; exact r
  | .bl i :: xs, _, _, is, ⟨v, vs', b, d, e, _, _, _, r, rs⟩, h => by
    rw [Tr.bls] at h
    cases q : Tr.bls xs with
    | none => rw [q] at h; cases h
    | some js =>
      rw [q] at h; cases h
      rw [e, show v = V.bl i from r, rs.bls q, List.map_cons]
  | .non :: _, _, _, _, _, h => by cases h
  | .int _ :: _, _, _, _, _, h => by cases h
  | .str _ :: _, _, _, _, _, h => by cases h
  | .tup _ :: _, _, _, _, _, h => by cases h
  | .lst _ _ :: _, _, _, _, _, h => by cases h
  | .dct _ _ _ :: _, _, _, _, _, h => by cases h
  | .ins _ _ _ :: _, _, _, _, _, h => by cases h
  | .con _ :: _, _, _, _, _, h => by cases h
  | .exc _ _ :: _, _, _, _, _, h => by cases h
  | .st _ _ :: _, _, _, _, _, h => by cases h
theorem Rs.strs : ∀ {xs : List PV} {vs : List V} {a : AS} {is : List Str}, Rs c H F xs vs a → Tr.allS xs = some is → vs = is.map V.str ∧ ∀ z ∈ is, sOk z = true
  | [], vs, _, _, r, h => by cases h; exact ⟨r, fun _ z => nomatch z⟩
  | .str i :: xs, _, _, is, ⟨v, vs', b, d, e, _, _, _, r, rs⟩, h => by
    rw [Tr.allS] at h
    cases q : Tr.allS xs with
    | none => rw [q] at h; cases h
    | some js =>
      rw [q] at h; cases h
      obtain ⟨h1, h2⟩ := rs.strs q
      refine ⟨by rw [e, show v = V.str i from r.1, h1, List.map_cons], fun z hz => ?_⟩
      rcases List.mem_cons.mp hz with rfl | hz
      · exact r.2
      · exact h2 z hz
  | .non :: _, _, _, _, _, h => by cases h
  | .bl _ :: _, _, _, _, _, h => by cases h
  | .int _ :: _, _, _, _, _, h => by cases h
  | .tup _ :: _, _, _, _, _, h => by cases h
  | .lst _ _ :: _, _, _, _, _, h => by cases h
  | .dct _ _ _ :: _, _, _, _, _, h => by cases h
  | .ins _ _ _ :: _, _, _, _, _, h => by cases h
  | .con _ :: _, _, _, _, _, h => by cases h
  | .exc _ _ :: _, _, _, _, _, h => by cases h
  | .st _ _ :: _, _, _, _, _, h => by cases h
mutual
def toPD : PV → PyData
  | .non => .none | .bl b => .bool b | .int i => .int i | .str x => .str x
  | .tup xs => .tuple (toPDs xs)
  | .lst _ xs => .list (toPDs xs)
  | .dct .. => .none | .ins .. => .none | .con _ => .none | .exc .. => .none | .st .. => .none
def toPDs : List PV → List PyData
  | [] => []
  | x :: xs => toPD x :: toPDs xs
end
theorem R.dp : ∀ (n : Nat) {v : PV} {x : V} {a : AS}, dat n v = true → R c H F v x a → Dp c.K H x (toPD v) ∧ (toPD v).canLay0 = true ∧ (toPD v).depth ≤ n := by
  have atom : ∀ (n : Nat) {v : PV} {x : V} {a : AS}, dat 0 v = true → R c H F v x a → Dp c.K H x (toPD v) ∧ (toPD v).canLay0 = true ∧ (toPD v).depth ≤ n := by
    intro n v x a d r
    cases v with
    | non => cases (show x = _ from r); exact ⟨.non, rfl, Nat.zero_le _⟩
    | bl b => cases (show x = _ from r); exact ⟨.bl b, rfl, Nat.zero_le _⟩
    | int i => cases (show x = _ from r); exact ⟨.int i, rfl, Nat.zero_le _⟩
    | str z =>
      obtain ⟨rfl, h⟩ := r
      refine ⟨.str z, ?_, Nat.zero_le _⟩
      unfold sOk at h
      rw [Bool.and_eq_true] at h
      exact h.2
    | _ => cases d
  intro n
  induction n with
  | zero => intro v x a d r; exact atom 0 d r
  | succ n ih =>
    have go : ∀ {xs : List PV} {vs : List V} {a : AS}, xs.all (dat n) = true → Rs c H F xs vs a → DpAll c.K H vs (toPDs xs) ∧ PyData.canLayAll0 (toPDs xs) = true ∧ PyData.depthAll (toPDs xs) ≤ n := by
      intro xs
      induction xs with
      | nil => intro vs a _ r; rw [show vs = [] from r]; exact ⟨.nil, rfl, Nat.zero_le _⟩
      | cons y ys ih2 =>
        intro vs a d r
        obtain ⟨v, vs', b, dd, e, _, _, _, r1, rs⟩ := r
        rw [List.all_cons, Bool.and_eq_true] at d
        obtain ⟨h1, h2, h3⟩ := ih d.1 r1
        obtain ⟨k1, k2, k3⟩ := ih2 d.2 rs
        subst e
        refine ⟨.cons h1 k1, ?_, ?_⟩
        · rw [toPDs, PyData.canLayAll0, h2, k2]; rfl
        · rw [toPDs, PyData.depthAll]; exact Nat.max_le.mpr ⟨h3, k3⟩
    intro v x a d r
    cases v with
    | tup xs =>
      obtain ⟨p, vs, rfl, q, l, rs⟩ := r.tupR
      rw [dat] at d
      obtain ⟨h1, h2, h3⟩ := go d rs
      exact ⟨by rw [toPD]; exact .tup q h1, by rw [toPD, PyData.canLay0]; exact h2, by rw [toPD, PyData.depth]; omega⟩
    | lst w xs =>
      obtain ⟨p, vs, b, rfl, q, l, _, rs⟩ := r.lstR
      rw [dat] at d
      obtain ⟨h1, h2, h3⟩ := go d rs
      exact ⟨by rw [toPD]; exact .lst (.inl q) h1, by rw [toPD, PyData.canLay0]; exact h2, by rw [toPD, PyData.depth]; omega⟩
    | non => exact atom _ rfl r
    | bl _ => exact atom _ rfl r
    | int _ => exact atom _ rfl r
    | str _ => exact atom _ rfl r
    | _ => cases d
theorem eqv_pd : ∀ (n : Nat) {v w : PV}, dat n v = true → dat n w = true → PyData.eqv (toPD v) (toPD w) = eqv v w := by
  intro n
  induction n with
  | zero => intro v w d d'; cases v <;> first | (cases d; done) | (cases w <;> first | (cases d'; done) | (simp [toPD, PyData.eqv, eqv, b2i]))
  | succ n ih =>
    have go : ∀ {xs ys : List PV}, xs.all (dat n) = true → ys.all (dat n) = true → PyData.eqvAll (toPDs xs) (toPDs ys) = eqvs xs ys := by
      intro xs
      induction xs with
      | nil => intro ys _ _; cases ys <;> simp [toPDs, PyData.eqvAll, eqvs]
      | cons x xs ih2 =>
        intro ys d d'
        cases ys with
        | nil => simp [toPDs, PyData.eqvAll, eqvs]
        | cons y ys =>
          rw [List.all_cons, Bool.and_eq_true] at d d'
          rw [toPDs, toPDs, PyData.eqvAll, eqvs, ih d.1 d'.1, ih2 d.2 d'.2]
    intro v w d d'
    cases v with
    | tup xs =>
      rw [dat] at d
      cases w with
      | tup ys => rw [dat] at d'; rw [toPD, toPD, PyData.eqv, eqv, go d d']
      | _ => first | (cases d'; done) | (simp [toPD, PyData.eqv, eqv])
    | lst b xs =>
      rw [dat] at d
      cases w with
      | lst b' ys => rw [dat] at d'; rw [toPD, toPD, PyData.eqv, eqv, go d d']
      | _ => first | (cases d'; done) | (simp [toPD, PyData.eqv, eqv])
    | non => cases w <;> first | (cases d'; done) | (simp [toPD, PyData.eqv, eqv, b2i])
    | bl _ => cases w <;> first | (cases d'; done) | (simp [toPD, PyData.eqv, eqv, b2i])
    | int _ => cases w <;> first | (cases d'; done) | (simp [toPD, PyData.eqv, eqv, b2i])
    | str _ => cases w <;> first | (cases d'; done) | (simp [toPD, PyData.eqv, eqv, b2i])
    | _ => cases d
theorem shaped_of {v : PV} {x : V} {a : AS} (d : dat deep v = true) (r : R c H F v x a) : SeqAt.shaped (toPD v) = true := by
  obtain ⟨_, h2, h3⟩ := R.dp deep d r
  unfold SeqAt.shaped
  rw [h2, Bool.true_and]
  exact decide_eq_true (Nat.le_trans h3 (by decide))
theorem k_eq : C2 c (rEqD c.K) cEq := by
  intro v w z x y H F Q A B g r1 r2 k q
  unfold cEq at k
  cases d1 : dat deep v with
  | false => rw [d1, Bool.false_and] at k; cases k
  | true =>
    cases d2 : dat deep w with
    | false => rw [d1, d2] at k; cases k
    | true =>
      rw [d1, d2] at k; cases k
      exact ⟨_, _, (R.dp deep d1 r1).1, (R.dp deep d2 r2).1, shaped_of d1 r1, shaped_of d2 r2, by rw [eqv_pd deep d1 d2]; exact q⟩
theorem k_ne : C2 c (rNeD c.K) cNe := by
  intro v w z x y H F Q A B g r1 r2 k q
  unfold cNe at k
  cases d1 : dat deep v with
  | false => rw [d1, Bool.false_and] at k; cases k
  | true =>
    cases d2 : dat deep w with
    | false => rw [d1, d2] at k; cases k
    | true =>
      rw [d1, d2] at k; cases k
      exact ⟨_, _, (R.dp deep d1 r1).1, (R.dp deep d2 r2).1, shaped_of d1 r1, shaped_of d2 r2, by rw [eqv_pd deep d1 d2]; exact q⟩
theorem k_sub : K2 c (rI0 fun i j => .int (i - j)) bSub := by
  intro v w z x y H F Q A B g r1 r2 k q
  cases v <;> cases w <;> cases k
  cases (show x = _ from r1); cases (show y = _ from r2)
  exact ⟨_, _, rfl, rfl, q.now g rfl⟩
theorem k_lt : C2 c (rI0 fun i j => .bl (decide (i < j))) cLt := by
  intro v w z x y H F Q A B g r1 r2 k q
  cases v <;> cases w <;> cases k
  cases (show x = _ from r1); cases (show y = _ from r2)
  exact ⟨_, _, rfl, rfl, q⟩
theorem k_gt : C2 c (rI0 fun i j => .bl (decide (j < i))) cGt := by
  intro v w z x y H F Q A B g r1 r2 k q
  cases v <;> cases w <;> cases k
  cases (show x = _ from r1); cases (show y = _ from r2)
  exact ⟨_, _, rfl, rfl, q⟩
theorem k_div : K2 c (rI CDivW fun i j => .int (i / j)) bDiv := by
  intro v w z x y H F Q A B g r1 r2 k q
  cases v <;> cases w <;> first | (cases k; done) | skip
  cases (show x = _ from r1); cases (show y = _ from r2)
  rename_i i j
  unfold bDiv at k
  by_cases h : divOk j = true
  · simp only [h, if_true] at k; cases k
    unfold divOk at h
    simp only [Bool.and_eq_true, decide_eq_true_eq] at h
    exact ⟨_, _, rfl, rfl, h, q.now g rfl⟩
  · simp only [h] at k; cases k
theorem k_mod : K2 c (rI (fun _ j => 0 < j) fun i j => .int (i % j)) bMod := by
  intro v w z x y H F Q A B g r1 r2 k q
  cases v <;> cases w <;> first | (cases k; done) | skip
  cases (show x = _ from r1); cases (show y = _ from r2)
  rename_i i j
  unfold bMod at k
  by_cases h : 0 < j
  · simp only [h, decide_true, if_true] at k; cases k
    exact ⟨_, _, rfl, rfl, h, q.now g rfl⟩
  · simp only [h] at k; cases k
def CPowW (i j : Int) : Prop := 0 ≤ j ∧ (Builtin.Int.intBits i : Int) * j ≤ 2 ^ 27
theorem op_powW {X : Cx} : OpR X (binaryOp .Pow) (rI CPowW fun i j => .int (i ^ j.toNat)) := opI fun _ _ _ _ _ _ _ hc q => PyProof.Rows.pow_int hc.1 hc.2 q
theorem k_pow : K2 c (rI CPowW fun i j => .int (i ^ j.toNat)) bPow := by
  intro v w z x y H F Q A B g r1 r2 k q
  cases v <;> cases w <;> first | (cases k; done) | skip
  cases (show x = _ from r1); cases (show y = _ from r2)
  rename_i i j
  unfold bPow at k
  by_cases h : powOk i j = true
  · simp only [h, if_true] at k; cases k
    unfold powOk at h
    simp only [Bool.and_eq_true, decide_eq_true_eq] at h
    refine ⟨_, _, rfl, rfl, ⟨h.1, Int.le_trans ?_ h.2⟩, q.now g rfl⟩
    refine Int.mul_le_mul_of_nonneg_right ?_ h.1
    have : Builtin.Int.intBits i ≤ i.natAbs.log2 + 1 := by
      unfold Builtin.Int.intBits
      split <;> omega
    exact_mod_cast this
  · simp only [h] at k; cases k
theorem k_neg : K1 c (rU fun i => .int (-i)) uNeg := by
  intro v z x H F Q A g r k q
  cases v <;> cases k
  cases (show x = _ from r)
  exact ⟨_, rfl, q.now g rfl⟩
end
section
variable {X : Cx} {c : RC}
theorem rd_lst {pins : List (Addr × Obj)} {σ : L2.St} {H : Hp} {s : Shared} {p : Addr} {xs : List V} (I : L2.Inv X pins σ H s) (h : Rd H p (.lst xs)) : xs.length ≤ sizeLine ∧ ∃ (its : List Value) (n : Nat), Vals xs its ∧ xs.length = its.length ∧ s.heap.get? p = some { cls := .type "list", data := .seq its.toArray n } := by
  obtain ⟨z, its, n, r, e⟩ := h.ok I.hok
  exact ⟨z, its, n, r, r.length, e⟩
def rCatS : R2 := fun x y H Q => ∃ l b xs zs, x = .ref l ∧ y = .ref b ∧ Rd H l (.lst xs) ∧ Rd H b (.lst zs) ∧ xs.length + zs.length ≤ sizeLine ∧ ∀ p, H p = none → Q (.ref p) (upd H p (.lst (xs ++ zs)))
theorem op_catS : OpR X (binaryOp .Add) rCatS := by
  intro pins s σ H x y v u Q I rx ry h
  obtain ⟨l, b, xs, zs, rfl, rfl, hH, hB, hz, q⟩ := h
  cases rx
  cases ry
  obtain ⟨z, its, n, r, hl, e⟩ := rd_lst I hH
  obtain ⟨z2, its2, n2, r2, hl2, e2⟩ := rd_lst I hB
  refine PySem.P.add_list e e2 ?_ (by rw [List.size_toArray, List.size_toArray]; omega)
  have ea : its.toArray ++ its2.toArray = (its ++ its2).toArray := by simp
  rw [ea]
  exact ⟨.ref _, _, I.lnew (t' := s.toks) (r.append r2) (by rw [List.length_append]; omega), rfl, q _ I.fresh⟩
def rAddAll (K : PySem.W.Frag) : R2 := fun x y H Q => rI0 (fun i j => .int (i + j)) x y H Q ∨ (∃ i j, x = .str i ∧ y = .str j ∧ i.length + j.length ≤ sizeLine ∧ Q (.str (i ++ j)) H) ∨ rCatS x y H Q ∨ rCatB K x y H Q
theorem op_addAll : OpR X (binaryOp .Add) (rAddAll X.K) := op_add.or (op_add_str.or (op_catS.or op_catB))
theorem sOk_append {x y : Str} (hx : sOk x = true) (hy : sOk y = true) (l : x.length + y.length ≤ big) : sOk (x ++ y) = true := by
  unfold sOk at *
  rw [Bool.and_eq_true] at *
  have e : (x ++ y).cps = x.cps ++ y.cps := rfl
  refine ⟨decide_eq_true ?_, ?_⟩
  · show (x ++ y).cps.size ≤ big
    rw [e, Array.size_append]; exact l
  · rw [e, Array.all_append, hx.2, hy.2]; rfl
theorem k_add : K2 c (rAddAll c.K) bAdd := by
  intro v w z x y H F Q A B g r1 r2 k q
  cases v <;> cases w <;> first | (cases k; done) | skip
  · cases (show x = _ from r1); cases (show y = _ from r2); cases k
    exact .inl ⟨_, _, rfl, rfl, q.now g rfl⟩
  · obtain ⟨rfl, s1⟩ := r1
    obtain ⟨rfl, s2⟩ := r2
    simp only [bAdd] at k
    split at k
    · rename_i l
      cases k
      exact .inr (.inl ⟨_, _, rfl, rfl, l, q.now g ⟨rfl, sOk_append s1 s2 l⟩⟩)
    · cases k
  · obtain ⟨p1, vs1, e1, q1, l1, rs1⟩ := r1.tupB
    obtain ⟨p2, vs2, e2, q2, l2, rs2⟩ := r2.tupB
    subst e1 e2
    simp only [bAdd] at k
    split at k
    · rename_i h
      cases k
      simp only [Bool.and_eq_true, decide_eq_true_eq] at h
      have t1 := rs1.emp h.1.1
      have t2 := rs2.emp h.1.2
      have n1 := rs1.len
      have n2 := rs2.len
      refine .inr (.inr (.inr ⟨p1, p2, vs1, vs2, rfl, rfl, q1.sq, q2.sq, by rw [n1, n2]; exact h.2, fun e => ?_, fun _ e => ?_, fun _ _ p o hp hb => ?_⟩))
      · have : (_ : List PV) = [] := List.eq_nil_of_length_eq_zero (by rw [← n1, e]; rfl)
        rw [this, List.nil_append] at q
        exact q.now g ⟨p2, vs2, rfl, ⟨q2, l2⟩, t2⟩
      · have : (_ : List PV) = [] := List.eq_nil_of_length_eq_zero (by rw [← n2, e]; rfl)
        rw [this, List.append_nil] at q
        exact q.now g ⟨p1, vs1, rfl, ⟨q1, l1⟩, t1⟩
      · exact q.tup g ((t1.append t2 Dis.empl).mono fun _ z => z.elim id id) (by rw [List.length_append]; exact h.2) hp hb
    · cases k
  · obtain ⟨p1, vs1, b1, e1, q1, l1, _, rs1⟩ := r1.lstR
    obtain ⟨p2, vs2, b2, e2, q2, l2, _, rs2⟩ := r2.lstR
    subst e1 e2
    simp only [bAdd] at k
    split at k
    · rename_i h
      cases k
      simp only [Bool.and_eq_true, decide_eq_true_eq] at h
      have t1 := rs1.emp h.1.1
      have t2 := rs2.emp h.1.2
      refine .inr (.inr (.inl ⟨p1, p2, vs1, vs2, rfl, rfl, q1, q2, by rw [rs1.len, rs2.len]; exact h.2, fun p hp => ?_⟩))
      exact q.lst g ((t1.append t2 Dis.empl).mono fun _ z => z.elim id id) (by rw [List.length_append]; exact h.2) hp
    · cases k
end
end Tr
namespace Tr
open PySem PySem.Spec L2
section
variable {X : Cx} {c : RC}
theorem foldl_app (l : List (Array Nat)) : ∀ acc : Array Nat, (l.foldl (· ++ ·) acc).toList = acc.toList ++ (l.map (·.toList)).flatten := by
  induction l with
  | nil => intro acc; simp
  | cons x l ih => intro acc; rw [List.foldl_cons, ih]; simp
theorem mulS_eq (x : Str) (k : Int) (h : 0 ≤ k) : Txt.mul x k = ⟨(List.replicate k.toNat x.cps.toList).flatten.toArray⟩ := by
  unfold Txt.mul
  by_cases h1 : k < 1
  · rw [if_pos h1]
    have : k.toNat = 0 := by omega
    rw [this]; rfl
  · rw [if_neg h1]
    by_cases h2 : (k == 1 || x.length == 0) = true
    · rw [if_pos h2]
      rw [Bool.or_eq_true, beq_iff_eq, beq_iff_eq] at h2
      rcases h2 with h2 | h2
      · subst h2; simp
      · have e : x.cps = #[] := Array.eq_empty_of_size_eq_zero h2
        obtain ⟨xc⟩ := x
        simp only at e; subst e
        simp
    · rw [if_neg h2]
      have e := foldl_app (List.replicate k.toNat x.cps) #[]
      rw [List.map_replicate] at e
      simp only [List.nil_append] at e
      congr 1
      rw [← e]
def rMulS : R2 := fun x y H Q => ∃ (z : Str) (k : Int), x = .str z ∧ y = .int k ∧ MulOk z k ∧ Q (.str (Txt.mul z k)) H
theorem op_mulS : OpR X (binaryOp .Mult) rMulS := by
  rintro pins s σ H x y v u Q I rx ry ⟨z, k, rfl, rfl, ok, q⟩
  obtain ⟨t1, rfl⟩ := rx
  obtain ⟨t2, rfl⟩ := ry
  exact PySem.SB.mul ok fun t' tk => ⟨.str (Txt.mul z k), H, I.tok tk, ⟨t', rfl⟩, q⟩
def rMulAll : R2 := fun x y H Q => rI CMulX (fun i j => .int (i * j)) x y H Q ∨ rMulS x y H Q
theorem op_mulAll : OpR X (binaryOp .Mult) rMulAll := op_mulX.or op_mulS
theorem cmulX_of {i j : Int} (h : i.natAbs.log2 + j.natAbs.log2 < 100000000) : CMulX i j := by
  have b : ∀ x : Int, Builtin.Int.intBits x ≤ x.natAbs.log2 + 1 := fun x => by
    unfold Builtin.Int.intBits
    split <;> omega
  have h1 := b i
  have h2 := b j
  unfold CMulX
  omega
theorem k_mul : K2 c rMulAll bMul := by
  intro v w z x y H F Q A B g r1 r2 k q
  cases v <;> cases w <;> first | (cases k; done) | skip
  · cases (show x = _ from r1); cases (show y = _ from r2)
    simp only [bMul] at k
    split at k
    · rename_i h
      cases k
      unfold mulOk at h
      have h2 := of_decide_eq_true h
      exact .inl ⟨_, _, rfl, rfl, cmulX_of h2, q.now g rfl⟩
    · cases k
  · obtain ⟨rfl, s1⟩ := r1
    cases (show y = _ from r2)
    rename_i s i
    simp only [bMul] at k
    split at k
    · rename_i h
      cases k
      simp only [Bool.and_eq_true, decide_eq_true_eq] at h
      have ok : MulOk s i := by
        have hb : s.length * i.toNat ≤ 16777216 := h.2
        refine ⟨?_, fun h1 h2 => ?_, fun h1 h2 => ?_⟩
        · rw [decide_eq_false (by omega), decide_eq_false (by omega)]; rfl
        · intro h3
          have h4 : ((2 : Int) ^ 63 - 1) / i ≥ 16777216 := by
            refine Int.le_ediv_of_mul_le (by omega) ?_
            omega
          have h5 : s.length ≤ 16777216 := Nat.le_trans (Nat.le_mul_of_pos_right _ (by omega)) hb
          omega
        · unfold Builtin.Str.tooLong
          simp only [decide_eq_false_iff_not]
          have e : (sizeLine : Nat) = 16777216 := by decide
          first | omega | (rw [e]; omega)
      refine .inr ⟨s, i, rfl, rfl, ok, ?_⟩
      rw [mulS_eq s i h.1.1]
      refine q.now g ⟨rfl, ?_⟩
      unfold sOk at s1 ⊢
      rw [Bool.and_eq_true] at s1 ⊢
      refine ⟨decide_eq_true ?_, ?_⟩
      · show ((List.replicate i.toNat s.cps.toList).flatten.toArray).size ≤ big
        rw [List.size_toArray, List.length_flatten, List.map_replicate, List.sum_replicate_nat, Array.length_toList, Nat.mul_comm]
        exact h.2
      · rw [← Array.all_toList, List.all_eq_true]
        intro y hy
        have s2 := s1.2
        rw [← Array.all_toList, List.all_eq_true] at s2
        obtain ⟨l, hl, hy⟩ := List.mem_flatten.mp hy
        exact s2 y (by rw [(List.mem_replicate.mp hl).2] at hy; exact hy)
    · cases k
theorem k_isN : C1 c (fun x H Q => Q (.bl (decide (x = .non))) H) cIsN := by
  intro v z x H F Q A g r k q
  cases v with
  | con _ => cases k
  | exc _ _ => cases k
  | st _ _ => cases k
  | non => cases k; cases (show x = _ from r); exact q
  | bl _ => cases k; cases (show x = _ from r); exact q
  | int _ => cases k; cases (show x = _ from r); exact q
  | str _ => cases k; obtain ⟨rfl, _⟩ := r; exact q
  | tup _ => cases k; obtain ⟨p, vs, rfl, _⟩ := r.tupR; exact q
  | lst _ _ => cases k; obtain ⟨p, vs, b, rfl, _⟩ := r.lstR; exact q
  | dct _ _ _ => cases k; obtain ⟨p, vs, b, rfl, _⟩ := r.dctR; exact q
  | ins w _ _ =>
    cases k
    cases w with
    | true => obtain ⟨p, dx, vs, a', rfl, _⟩ := r; exact q
    | false => obtain ⟨p, dx, vs, rfl, _⟩ := r; exact q
variable {W : WX} {a b : Expr} {pos pos' : Pos} {oa ob : Opd} {j : _}
theorem st_isN (ha : SO X c W a oa) : ST X c W (.Compare a [.Is] [.Constant .none j pos'] pos) (tPV cIsN oa) :=
  PT.weak (pt_cmp (pc_isN ha)) fun σ H Q q => one_c (r := fun x H Q => Q (.bl (decide (x = .non))) H) k_isN q
theorem se_isN (ha : SO X c W a oa) : SE X c W (.Compare a [.Is] [.Constant .none j pos'] pos) (eT (tPV cIsN oa)) :=
  PE.weak (pe_cmp (pc_isN ha)) fun σ H Q q => tO.one (eT_bl q) fun v x y ρ1 H1 F1 A1 bb g sb e ⟨_, _, r1⟩ kk p => k_isN v y x H1 F1 _ _ (g.sub Sub.emp) r1 kk (p.now g sb rfl e)
theorem k_ix : K2 c (rIx c.K) ix := by
  intro v w z x y H F Q A B g r1 r2 k q
  cases v <;> cases w <;> first | (cases k; done) | skip
  · obtain ⟨rfl, s1⟩ := r1
    cases (show y = _ from r2)
    rename_i s i
    simp only [ix] at k
    cases e : atI s.cps.toList i with
    | none => rw [e] at k; cases k
    | some d =>
      rw [e] at k; cases k
      unfold sOk at s1
      rw [Bool.and_eq_true, decide_eq_true_eq] at s1
      refine .inr (.inr ⟨_, _, d, rfl, rfl, s1.1, e, q.now g ⟨rfl, ?_⟩⟩)
      have hm : d ∈ s.cps.toList := by
        unfold atI at e
        cases e2 : ixN s.cps.toList.length i with
        | none => rw [e2] at e; cases e
        | some j => rw [e2] at e; exact List.mem_of_getElem? e
      have s2 := s1.2
      rw [← Array.all_toList, List.all_eq_true] at s2
      unfold sOk
      have h3 := s2 d hm
      rw [Bool.and_eq_true]
      exact ⟨decide_eq_true (by show 1 ≤ 16777216; omega), by simpa using h3⟩
  · obtain ⟨p, vs, rfl, q1, l, rs⟩ := r1.tupR
    cases (show y = _ from r2)
    rename_i xs i
    simp only [ix] at k
    cases e : atI xs i with
    | none => rw [e] at k; cases k
    | some d =>
      rw [e] at k
      simp only [Option.bind_some, onlyFro] at k
      split at k
      · rename_i f
        cases k
        obtain ⟨u, h1, h2⟩ := rs.at e f
        exact .inr (.inl ⟨p, vs, _, u, rfl, rfl, q1, h1, q.now g h2⟩)
      · cases k
  · obtain ⟨p, vs, b, rfl, q1, l, _, rs⟩ := r1.lstR
    cases (show y = _ from r2)
    rename_i xs i _
    simp only [ix] at k
    cases e : atI xs i with
    | none => rw [e] at k; cases k
    | some d =>
      rw [e] at k
      simp only [Option.bind_some, onlyFro] at k
      split at k
      · rename_i f
        cases k
        obtain ⟨u, h1, h2⟩ := rs.at e f
        exact .inl ⟨p, vs, _, u, rfl, rfl, .inl q1, h1, q.now g h2⟩
      · cases k
theorem se_ix (hK : X.K = c.K) (ha : SO X c W a oa) (hb : SO X c W b ob) (hs : PlainIx b) : SE X c W (.Subscript a b pos) (eP2 ix oa ob) :=
  PE.weak (pe_ix ix_seq ha hb hs) fun σ H Q q => two_k (by rw [hK]; exact k_ix) q
end
end Tr
namespace Tr
open PySem PySem.Spec L2
section
variable {X : Cx} {c : RC} {W : WX} {a b : Expr} {pos pos' : Pos} {oa ob : Opd}
def relI : Hp → AS → Option Int → Option Int → AS → Prop := fun _ _ v x _ => x = v
def SB (X : Cx) (c : RC) (W : WX) (e : Option Expr) (b : Option EF) : Prop := PO X e (tG c W relI (goB b))
theorem PO.weak {e : Option Expr} {t t' : TO} (h : PO X e t) (k : ∀ σ H Q, t' σ H Q → t σ H Q) : PO X e t' := ⟨fun pins s σ H Q I q => h.run pins s σ H Q I (k σ H Q q)⟩
theorem sb_none : SB X c W none none := PO.weak po_none fun σ H Q ⟨ρ, F, A, g, e, p⟩ => p.now g (Sub.refl _) rfl e
theorem sb_some {e : Expr} {f : EF} (h : SE X c W e f) : SB X c W (some e) (some f) := by
  refine PO.weak (po_some h) fun σ H Q q => ?_
  obtain ⟨ρ, F, A, g, e, p⟩ := q
  refine ⟨ρ, F, A, g, e, ?_⟩
  unfold goB at p
  cases q : f ρ with
  | bad => simp only [q] at p; exact p.elim
  | er x ρ1 => simp only [q] at p; exact p
  | ok v ρ1 =>
    simp only [q, Res.bind_ok] at p
    cases v with
    | int i =>
      intro x H1 F1 a b s g1 d r e1
      exact ⟨i, r, p (some i) H1 F1 a b s g1 d rfl e1⟩
    | _ => exact p.elim
def rSlAll (K : PySem.W.Frag) : V → Option Int → Option Int → Hp → VK → Prop := fun x lo hi H Q => rSlL K x lo hi H Q ∨ rSlB K x lo hi H Q ∨ rSlS x lo hi H Q
theorem sl_all : SlR X (rSlAll X.K) := sl_list.or (sl_tupB.or sl_str)
theorem cut_whole {α : Type} (xs : List α) (lo hi : Option Int) (h : sIx xs.length 0 lo = 0 ∧ sIx xs.length xs.length hi = xs.length) : cut xs lo hi = xs := by
  unfold cut
  rw [h.1, h.2, List.drop_zero, Nat.sub_zero, List.take_length]
theorem cut_len {α : Type} (xs : List α) (lo hi : Option Int) : (cut xs lo hi).length ≤ xs.length := by
  unfold cut
  rw [List.length_take, List.length_drop]
  omega
theorem cut_mem {α : Type} {xs : List α} {lo hi : Option Int} {y : α} (h : y ∈ cut xs lo hi) : y ∈ xs := List.mem_of_mem_drop (List.mem_of_mem_take h)
theorem k_sl {v z : PV} {lo hi : Option Int} {x : V} {H : Hp} {F A : AS} {Q : VK} (g : Good H F Emp) (r : R c H F v x A) (k : sl v lo hi = some z) (q : Fin c H F z Q) : rSlAll c.K x lo hi H Q := by
  cases v <;> first | (cases k; done) | skip
  · obtain ⟨rfl, s1⟩ := r
    cases k
    unfold sOk at s1
    rw [Bool.and_eq_true, decide_eq_true_eq] at s1
    refine .inr (.inr ⟨_, rfl, s1.1, q.now g ⟨rfl, ?_⟩⟩)
    rename_i s
    unfold sOk
    rw [Bool.and_eq_true]
    refine ⟨decide_eq_true ?_, ?_⟩
    · show ((cut s.cps.toList lo hi).toArray).size ≤ big
      rw [List.size_toArray]
      exact Nat.le_trans (cut_len _ _ _) (by rw [Array.length_toList]; exact s1.1)
    · have s2 := s1.2
      rw [← Array.all_toList, List.all_eq_true] at s2 ⊢
      exact fun y hy => s2 y (cut_mem (by simpa using hy))
  · obtain ⟨p, vs, rfl, q1, l, rs⟩ := r.tupB
    simp only [sl] at k
    split at k
    · rename_i xs f
      cases k
      have t := rs.emp f
      refine .inr (.inl ⟨p, vs, rfl, q1.sq, fun h => ?_, fun h pp o hp hb => ?_⟩)
      · rw [rs.len] at h
        rw [cut_whole _ _ _ h] at q
        exact q.now g ⟨p, vs, rfl, ⟨q1, l⟩, t⟩
      · exact q.tup g t.cut (Nat.le_trans (cut_len _ _ _) l) hp hb
    · cases k
  · obtain ⟨p, vs, b, rfl, q1, l, _, rs⟩ := r.lstR
    simp only [sl] at k
    split at k
    · rename_i f
      cases k
      exact .inl ⟨p, vs, rfl, .inl q1, fun pp hp => q.lst g (rs.emp f).cut (Nat.le_trans (cut_len _ _ _) l) hp⟩
    · cases k
theorem se_sl {lo hi : Option Expr} {p2 : Pos} {fl fh : Option EF} (hK : X.K = c.K) (ha : SO X c W a oa) (hl : SB X c W lo fl) (hh : SB X c W hi fh) : SE X c W (.Subscript a (.Slice lo hi none p2) pos) (eSl oa fl fh) := by
  refine PE.weak (pe_slice sl_all ha hl hh) fun σ H Q q => ?_
  obtain ⟨ρ, F, A, gd, e, p⟩ := q
  refine tO.next (t := Emp) gd Sub.emp (Sub.refl _) Dis.empl e p fun u x ρ1 H1 F1 a1 b1 g1 _ d tm e1 s p1 => ?_
  refine tG.next (t := a1) (b := b1) g1 (Sub.l.trans Sub.r) (Sub.r.trans Sub.r) d e1 p1 fun i i' ρ2 H2 F2 a2 b2 g2 d1 d2 ri e2 s2 p2 => ?_
  have tm2 := tm.step (g1.sub (Sub.r.trans Sub.r)) s2 d
  refine tG.next (t := a1) (b := b2) g2 Sub.l (Sub.r.trans Sub.r) (fun q y z => d1 q y (.inr z)) e2 p2 fun j j' ρ3 H3 F3 a3 b3 g3 d3 d4 rj e3 s3 p3 => ?_
  have tm3 := tm2.step (g2.sub (Sub.r.trans Sub.r)) s3 (fun q y z => d1 q y (.inr z))
  cases (show i' = i from ri)
  cases (show j' = j from rj)
  cases q : oa.get u ρ3 with
  | none => simp only [q] at p3; exact p3.elim
  | some v =>
    simp only [q, Option.bind_some] at p3
    cases q2 : sl v i j with
    | none => simp only [q2] at p3; exact p3.elim
    | some z =>
      simp only [q2] at p3
      obtain ⟨dd, sd, r⟩ := tm3.get e3 q
      rw [hK]
      exact k_sl (g3.sub Sub.emp) r q2 (p3.fin g3 (Sub.r.trans Sub.r) e3)
def rLenAll (K : PySem.W.Frag) : List V → Hp → VK → Prop := fun xs H Q => (∃ x n, xs = [x] ∧ LenV K x H n ∧ Q (.int n) H) ∨ ∃ a kvs, xs = [V.ref a] ∧ Rd H a (.dK kvs) ∧ Q (.int kvs.length) H
theorem call_lenRd : CallR X (.builtin "len") (fun xs H Q => ∃ a kvs, xs = [V.ref a] ∧ Rd H a (.dK kvs) ∧ Q (.int kvs.length) H) := by
  rintro pins s σ H xs us Q I r ⟨d, kvs, rfl, hd, q⟩
  rw [Vals.ref1 r]
  exact d_len I hd fun t s' J => ⟨.int kvs.length, H, J, ⟨t, rfl⟩, q⟩
theorem call_lenAll : CallR X (.builtin "len") (rLenAll X.K) := call_len.or call_lenRd
theorem k_len : K1 c (fun v => rLenAll c.K [v]) fLen := by
  intro v z x H F Q A g r k q
  cases v <;> first | (cases k; done) | skip
  · cases k
    obtain ⟨rfl, s1⟩ := r
    unfold sOk at s1
    rw [Bool.and_eq_true, decide_eq_true_eq] at s1
    exact .inl ⟨_, _, rfl, ⟨s1.1, rfl⟩, q.now g rfl⟩
  · cases k
    obtain ⟨p, vs, rfl, q1, l, rs⟩ := r.tupR
    exact .inl ⟨_, _, rfl, .inr ⟨_, q1, rfl⟩, q.now g (by rw [rs.len]; rfl)⟩
  · cases k
    obtain ⟨p, vs, b, rfl, q1, l, _, rs⟩ := r.lstR
    exact .inl ⟨_, _, rfl, .inl ⟨_, .inl q1, rfl⟩, q.now g (by rw [rs.len]; rfl)⟩
  · cases k
    obtain ⟨p, vs, b, rfl, q1, l, l2, _, rs⟩ := r.dctR
    exact .inr ⟨_, _, rfl, q1, q.now g (by rw [List.length_zip, rs.len, l, Nat.min_self]; rfl)⟩
theorem k_abs : K1 c (fun v => (fun xs H Q => ∃ i, xs = [.int i] ∧ Q (.int (if i < 0 then -i else i)) H : List V → Hp → VK → Prop) [v]) fAbs := by
  intro v z x H F Q A g r k q
  cases v <;> cases k
  cases (show x = _ from r)
  exact ⟨_, rfl, q.now g rfl⟩
theorem k_int : K1 c (fun v => (fun xs H Q => (∃ i, xs = [.int i] ∧ Q (.int i) H) ∨ ∃ k, xs = [.bl k] ∧ Q (.int (if k then 1 else 0)) H : List V → Hp → VK → Prop) [v]) fInt := by
  intro v z x H F Q A g r k q
  cases v <;> cases k
  · cases (show x = _ from r)
    rename_i b
    exact .inr ⟨b, rfl, q.now g (by cases b <;> rfl)⟩
  · cases (show x = _ from r)
    exact .inl ⟨_, rfl, q.now g rfl⟩
theorem k_max2 : K2 c (fun v w => (fun xs H Q => ∃ i j, xs = [.int i, .int j] ∧ Q (.int (if j > i then j else i)) H : List V → Hp → VK → Prop) [v, w]) fMax2 := by
  intro v w z x y H F Q A B g r1 r2 k q
  cases v <;> cases w <;> cases k
  cases (show x = _ from r1); cases (show y = _ from r2)
  exact ⟨_, _, rfl, q.now g rfl⟩
theorem k_min2 : K2 c (fun v w => (fun xs H Q => ∃ i j, xs = [.int i, .int j] ∧ Q (.int (if j < i then j else i)) H : List V → Hp → VK → Prop) [v, w]) fMin2 := by
  intro v w z x y H F Q A B g r1 r2 k q
  cases v <;> cases w <;> cases k
  cases (show x = _ from r1); cases (show y = _ from r2)
  exact ⟨_, _, rfl, q.now g rfl⟩
theorem k_all : K1 c (fun v => rAll c.K [v]) fAll := by
  intro v z x H F Q A g r k q
  cases v <;> first | (cases k; done) | skip
  obtain ⟨p, vs, b, rfl, q1, l, _, rs⟩ := r.lstR
  simp only [fAll] at k
  rename_i w xs _
  cases e : bls xs with
  | none => rw [e] at k; cases k
  | some bs =>
    rw [e] at k; cases k
    exact ⟨p, bs, rfl, by rw [← rs.bls e]; exact .inl q1, q.now g rfl⟩
def rJoinX (K : PySem.W.Frag) : V → List V → Hp → VK → Prop := fun x xs H Q => ∃ a p, ∃ ys : List Str, x = .str a ∧ xs = [.ref p] ∧ (SqL K H p (ys.map V.str) ∨ SqT K H p (ys.map V.str)) ∧
      (ys.map (·.length)).sum + ys.length * a.length ≤ 16777216 ∧ Q (.str (Txt.join a ys)) H
theorem join_ok (a : Str) (ha : sOk a = true) : ∀ ys : List Str, (∀ z ∈ ys, sOk z = true) → ∀ y ∈ (Str.join a ys).cps.toList, y < 0x110000 := by
  have ok : ∀ z : Str, sOk z = true → ∀ y ∈ z.cps.toList, y < 0x110000 := by
    intro z h y hy
    unfold sOk at h
    rw [Bool.and_eq_true] at h
    have s2 := h.2
    rw [← Array.all_toList, List.all_eq_true] at s2
    simpa using s2 y hy
  intro ys
  induction ys with
  | nil => intro _ y hy; cases hy
  | cons x xs ih =>
    intro h y hy
    cases xs with
    | nil => exact ok x (h x List.mem_cons_self) y hy
    | cons x2 xs =>
      have e : (Str.join a (x :: x2 :: xs)).cps.toList = x.cps.toList ++ a.cps.toList ++ (Str.join a (x2 :: xs)).cps.toList := by
        show ((x ++ a) ++ Str.join a (x2 :: xs)).cps.toList = _
        show ((x.cps ++ a.cps) ++ (Str.join a (x2 :: xs)).cps).toList = _
        simp
      rw [e] at hy
      rcases List.mem_append.mp hy with hy | hy
      · rcases List.mem_append.mp hy with hy | hy
        · exact ok x (h x List.mem_cons_self) y hy
        · exact ok a ha y hy
      · exact ih (fun z hz => h z (List.mem_cons_of_mem _ hz)) y hy
theorem k_join {v w z : PV} {x y : V} {H : Hp} {F A B : AS} {Q : VK} (g : Good H F Emp) (r1 : R c H F v x A) (r2 : R c H F w y B) (k : fJoin v w = some z) (q : Fin c H F z Q) : (∃ z, x = .str z) ∧ rJoinX c.K x [y] H Q := by
  have main : ∀ (a : Str) (xs : List PV) (ys : List Str) (p : Addr) (vs : List V) (B : AS), sOk a = true → (SqL c.K H p vs ∨ SqT c.K H p vs) → Rs c H F xs vs B → Tr.allS xs = some ys → (if (ys.map (·.length)).sum + ys.length * a.length ≤ big then some (PV.str (Str.join a ys)) else none) = some z → rJoinX c.K (.str a) [.ref p] H Q := by
    intro a xs ys p vs B ha hp rs e k
    split at k
    · rename_i hz
      cases k
      obtain ⟨h1, h2⟩ := rs.strs e
      rw [h1] at hp
      refine ⟨a, p, ys, rfl, rfl, hp, hz, ?_⟩
      have ej : Txt.join a ys = Str.join a ys := StrLaws.glued_eq_join a ys
      rw [ej]
      refine q.now g ⟨rfl, ?_⟩
      unfold sOk
      rw [Bool.and_eq_true]
      refine ⟨decide_eq_true (Nat.le_trans (StrLaws.join_length_le a ys) hz), ?_⟩
      rw [← Array.all_toList, List.all_eq_true]
      exact fun y hy => by simpa using join_ok a ha ys h2 y hy
    · cases k
  cases v <;> first | (cases k; done) | skip
  cases w <;> first | (cases k; done) | skip
  · obtain ⟨rfl, s1⟩ := r1
    obtain ⟨p, vs, rfl, q1, l, rs⟩ := r2.tupR
    refine ⟨⟨_, rfl⟩, ?_⟩
    simp only [fJoin] at k
    rename_i a xs
    cases e : Tr.allS xs with
    | none => rw [e] at k; cases k
    | some ys => rw [e, Option.bind_some] at k; exact main a xs ys p vs _ s1 (.inr q1) rs e k
  · obtain ⟨rfl, s1⟩ := r1
    obtain ⟨p, vs, b, rfl, q1, l, _, rs⟩ := r2.lstR
    refine ⟨⟨_, rfl⟩, ?_⟩
    simp only [fJoin] at k
    rename_i a w xs _
    cases e : Tr.allS xs with
    | none => rw [e] at k; cases k
    | some ys => rw [e, Option.bind_some] at k; exact main a xs ys p vs _ s1 (.inl (.inl q1)) rs e k
theorem se_join {z : Str} {j : _} {ap apos : Pos} (hK : X.K = c.K) (hz : sOk z = true) (hb : SO X c W b ob) (hs : starEach [b] X.env = [(false, eval b X.env)] := by rfl)
    (hbase : attributeBase (.Constant (.str z) j ap) "join" X.env (eval (.Constant (.str z) j ap) X.env) = eval (.Constant (.str z) j ap) X.env := by rfl) (hline : (apos.endLine == pos.line) = true := by rfl) :
    SE X c W (.Call (.Attribute (.Constant (.str z) j ap) "join" apos) [b] [] pos) (eP1 (fJoin (.str z)) ob) := by
  refine PE.weak (pe_join pe_str hb hs hbase hline) fun σ H Q q => ?_
  refine ⟨⟨_, rfl⟩, ?_⟩
  refine tO.one q fun v x y ρ1 H1 F1 A1 bb g sb e ⟨_, _, r1⟩ kk p => ?_
  have := (k_join (v := .str z) (x := .str z) (A := Emp) (g.sub Sub.emp) ⟨rfl, hz⟩ r1 kk (p.fin g sb e)).2
  unfold rJoinX at this
  rw [hK]
  exact this
def tyN : Ty → String
  | .int => "int" | .bool => "bool" | .str => "str" | .list => "list" | .tuple => "tuple" | .dict => "dict"
def tyP : PV → Option String
  | .non => some "NoneType" | .bl _ => some "bool" | .int _ => some "int" | .str _ => some "str" | .tup _ => some "tuple" | .lst .. => some "list" | .dct .. => some "dict"
  | _ => none
theorem tyx_of {v : PV} {x : V} {H : Hp} {F A : AS} {n : String} (r : R c H F v x A) (h : tyP v = some n) : TyX c.K H x (.type n) := by
  cases v with
  | non => cases h; cases (show x = _ from r); exact .base .non
  | bl b => cases h; cases (show x = _ from r); exact .base (.bl b)
  | int i => cases h; cases (show x = _ from r); exact .base (.int i)
  | str z => cases h; obtain ⟨rfl, _⟩ := r; exact .base (.str z)
  | tup xs =>
    cases h
    obtain ⟨p, vs, rfl, q1, l, rs⟩ := r.tupR
    rcases q1 with (q1 | ⟨o, q1⟩) | ⟨o, its, n, q1, q2, _⟩
    · exact .base (.tup q1)
    · exact .fTuple q1
    · exact .kTuple q1 q2
  | lst w xs =>
    cases h
    obtain ⟨p, vs, b, rfl, q1, l, _, rs⟩ := r.lstR
    rcases q1 with q1 | ⟨o, q1⟩
    · exact .base (.lst q1)
    · exact .base (.frz q1)
  | dct w ks xs =>
    cases h
    obtain ⟨p, vs, b, rfl, q1, l, l2, _, rs⟩ := r.dctR
    rcases q1 with q1 | ⟨o, q1⟩
    · exact .base (.dK q1)
    · exact .fDict q1
  | ins _ _ _ => cases h
  | con _ => cases h
  | exc _ _ => cases h
  | st _ _ => cases h
def rIsaX (K : PySem.W.Frag) (T : String) : V → Hp → VK → Prop := fun x H Q => ∃ (t : Value) (b : Bool), TyX K H x t ∧ PySem.W.kitOne K t (.type T) = some b ∧ Q (.bl b) H
theorem k_isa (T : Ty) : C1 c (rIsaX c.K (tyN T)) (isA T) := by
  intro v z x H F Q A g r k q
  cases e : tyP v with
  | none => cases v <;> first | (cases e; done) | (cases T <;> cases k)
  | some n =>
    refine ⟨.type n, z, tyx_of r e, kit_ty ?_, q⟩
    cases v <;> cases e <;> cases T <;> cases k <;> decide +kernel
variable {p p2 : Pos} {xT : Str} {T : Ty}
theorem se_isa (hK : X.K = c.K) (ha : SO X c W a oa) (hT : PE X (.Name xT p2) (tC (.ty (tyN T)))) (hg : Gl X "isinstance") (hm : X.mg "isinstance" = none)
    (st : starEach [a, .Name xT p2] X.env = (false, eval a X.env) :: starEach [.Name xT p2] X.env := by rfl) (st2 : starEach [.Name xT p2] X.env = (false, eval (.Name xT p2) X.env) :: starEach [] X.env := by rfl) (he : (backTo pos (starEach [.Name xT p2] X.env)).any (·.1) = false := by rfl) :
    SE X c W (.Call (.Name "isinstance" p) [a, .Name xT p2] [] pos) (eT (tPV (isA T) oa)) := by
  refine PE.weak (pe_callB call_isi hg hm (by decide +kernel) (pa_cons ha (pa_cons hT pa_nil st2) st) (by decide) (by decide) st he) fun σ H Q q => ?_
  refine tO.one (eT_bl q) fun v x y ρ1 H1 F1 A1 bb g sb e ⟨_, _, r1⟩ kk pp => ?_
  obtain ⟨t, b, h1, h2, h3⟩ := k_isa (c := c) T v y x H1 F1 Q _ (g.sub Sub.emp) r1 kk (pp.now g sb rfl e)
  exact ⟨x, _, t, _, b, rfl, .ty _, by rw [hK]; exact h1, by rw [hK]; exact h2, h3⟩
end
end Tr
namespace Tr
open PySem PySem.Spec PyProof.Rows L2
structure FnG (P : Program) (w : World) (K : PySem.W.Frag) (mg : Str → Option Value) (base : Heap) (CX : CXT) (k : Nat) (f : Addr) (fd : FuncData) (ps : List Str) (sp : Sp) : Prop where
  len : ∀ vs H Q E, sp vs H Q E → vs.length = ps.length
  run : ∀ (A : Around), A.guards = some [] → ∀ (outer : List PySem.Env) (s : Shared) (H : Hp) (args : Args) (us : List Value) (vs : List V) (Q : VK) (E : XK), Room k A → Env0 P w K mg base A outer s H → BindsTo s fd args (ps.zip us) → Vals vs us → sp vs H Q E →
    codeAny (model P w) A (.call (.ref f) args) (CR CX outer P w H s Q E) s
section
variable {P : Program} {w : World} {K : PySem.W.Frag} {mg : Str → Option Value} {base : Heap} {CX : CXT}
theorem FnG.of {k : Nat} {f : Addr} {fd : FuncData} {ps : List Str} {sp : Sp} (F : FnOk P w K mg base CX k f fd ps sp) : FnG P w K mg base CX k f fd ps sp := ⟨F.len, fun A _ => F.run A⟩
theorem Fun.okG {x qual : Str} {st : Stmt} {f : Addr} {fd : FuncData} {N ps : List Str} {k : Nat} {sp : Sp} (F : Fun K x qual st f fd) (S : FnScope N ps (defScope st)) (len : ∀ vs H Q E, sp vs H Q E → vs.length = ps.length)
    (hb : ∀ (cdv : Value) (A : Around) (outer : List PySem.Env) (s : Shared) (H : Hp) (vs : List V) (Q : VK) (E : XK), A.guards = some [] → Room k (A.deeper (envOfC qual (defScope st) s.heap.objs.size f cdv)) → sp vs H Q E →
      ∃ t, PSs (cxOf (L2.CX P w) P w K mg base N qual (defScope st) f cdv A outer s H E) (defBody st) t ∧ t { nx := fun _ H' => Q .non H', rt := Q } (L2.start N vs) H) : FnG P w K mg base (L2.CX P w) (k + 1) f fd ps sp := by
  obtain ⟨oc, od, kV, doc, pm, an, cdv, ct, osl, rfl, lk, hcd⟩ := F.ex
  refine ⟨len, fun A gA outer s H args us vs Q E room env bind rel want => ?_⟩
  have n := len _ _ _ _ want
  have inK : K.In s.heap := env.mod.kin.keeps fun b o e => (env.bs b o e).1
  have nolim : s.heap.NoLimit := env.mod.nolimit.keeps fun b o e => (env.bs b o e).1
  have kinds : ∀ y ∈ ps.zip us, (defScope st).names.lookup y.1 = some .local ∨ ((defScope st).names.lookup y.1 = some .cell ∧ ((cellsFrom (s.heap.objs.size + 1) (defScope st).names []).lookup y.1).isSome = true) := fun y hy => (S.par y.1 (List.of_mem_zip (a := y.1) (b := y.2) hy).1).imp id fun q => ⟨q, PySem.W.cellsFrom_some _ _ _ (.inl q)⟩
  refine codeAny_call_function room.depth (inK _ _ lk) rfl S.co S.gen rfl (PySem.W.codeRec_of inK hcd) (bind _ _ _ _ (wpAny_newFunctionEnv_cells S.kind kinds fun env' e s1 x => ?_))
  subst e
  obtain ⟨t, ht, q⟩ := hb cdv A outer s H vs Q E gA (room.deeper _) want
  refine ⟨nolim.keeps x.toInCall.keep, codeAny_func (wpAny_mono (ht.run [] s1 (L2.start N vs) H _ (inv_start S room.hd env n rel x) q) (fun fl s' a => ?_) fun e s' a => a)⟩
  cases fl with
  | ret u => obtain ⟨v, σ', H', J, rv, q⟩ := a; exact ⟨v, H', J.os, J.bare, J.base, J.hok, rv, q⟩
  | next => obtain ⟨σ', H', J, q⟩ := a; exact ⟨V.non, H', J.os, J.bare, J.base, J.hok, rfl, q⟩
  | brk => obtain ⟨_, _, _, q⟩ := a; exact False.elim q
  | cont => obtain ⟨_, _, _, q⟩ := a; exact False.elim q
end
section
variable {X : Cx} {k : Nat} {f : Addr} {fd : FuncData} {ps : List Str} {sp : Sp} {dvs : List V} {ds : List Value} {E : L2.St → XK} {x : Str} {p pos : Pos} {e : Expr} {es : List Expr} {t : TA}
theorem run_G {E : XK} {pins : List (Addr × Obj)} {σ : L2.St} {H : Hp} {s : Shared} {Q : VK} {us : List Value} {vs : List V} {args : Args} (F : FnG X.prog X.w X.K X.mg X.base (L2.CX X.prog X.w) k f fd ps sp) (gA : X.A.guards = some []) (hr : Room k X.A)
    (hb : us.length = ps.length → BindsTo s fd args (ps.zip us)) (hx : PassesAt (L2.CX X.prog X.w) X σ E) (I : Inv X pins σ H s) (r : Vals vs us) (h : sp vs H Q E) : wpAny (model X.prog X.w) X.A (call (.ref f) args.pos args.kw) (EP X pins σ Q) X.xe s := by
  have hl : us.length = ps.length := by rw [← r.length]; exact F.len _ _ _ _ h
  refine wpAny_call (codeAny_mono (F.run X.A gA X.stack s H args us vs Q E hr I.env0 (hb hl) r h) fun r s' hq => ?_)
  cases r with
  | error e => exact hx pins H s e s' I hq
  | ok fl =>
    cases fl with
    | ret u => exact I.after hq
    | next => exact False.elim hq
    | brk => exact False.elim hq
    | cont => exact False.elim hq
theorem pe_callG (F : FnG X.prog X.w X.K X.mg X.base (L2.CX X.prog X.w) k f fd ps sp) (gA : X.A.guards = some []) (hr : Room k X.A) (hg : Gl X x) (hm : X.mg x = some (.ref f)) (hk : PySem.W.keepIn X.K (.ref f) = true) (hb : Binds X.K fd ps ds) (hd : Vals dvs ds) (hx : ∀ σ, PassesAt (L2.CX X.prog X.w) X σ (E σ))
    (ha : PA X (e :: es) t) (hdb : (x == ("__debug__" : Str)) = false := by decide) (he : starEach (e :: es) X.env = (false, eval e X.env) :: starEach es X.env := by rfl) (hpl : (backTo pos (starEach es X.env)).any (·.1) = false := by rfl) :
    PE X (.Call (.Name x p) (e :: es) [] pos) (tCallSD sp dvs E t) :=
  ⟨fun pins s σ H Q I h => wpAny_Call_Name_kw (ld_glob I hg hm (PySem.W.callWith_K (h₀ := X.base) I.ok.mod.kin hk (thn (ha.run pos pins s σ H _ I h) fun us s1 ⟨vs, H1, I1, r, q⟩ =>
    ⟨I1.kIn, run_G (args := ⟨us, []⟩) (us := us ++ ds) F gA hr (fun hl => hb s1 us I1.kIn hl) (hx σ) I1 (r.append hd) q⟩) he hpl) hdb)⟩
end
def isLst : Value → Bool
  | .type n => n == "list"
  | _ => false
def noL (K : PySem.W.Frag) : Bool := K.all fun e => !isLst e.2.cls
theorem noL_of {K : PySem.W.Frag} (h : noL K = true) {a : Addr} {o : Obj} (e : K.lookup a = some o) (hc : o.cls = .type "list") : False := by
  have hm : (a, o) ∈ K := by
    induction K with
    | nil => cases e
    | cons x K ih =>
      obtain ⟨b, u⟩ := x
      rw [List.lookup_cons] at e
      split at e
      · rename_i q
        cases e
        rw [eq_of_beq q]
        exact List.mem_cons_self
      · refine List.mem_cons_of_mem _ (ih ?_ e)
        unfold noL at h ⊢
        rw [List.all_cons, Bool.and_eq_true] at h
        exact h.2
  have := List.all_eq_true.mp h _ hm
  rw [hc] at this
  simp [isLst] at this
theorem lawG {P : Program} {w : World} {K : PySem.W.Frag} {mg mb : Str → Option Value} {k : Nat} {fa a : Addr} {fd : FuncData} {x : Str} {sp : Sp} {s₁ : Shared} {vs : List Value} {ns : List Int}
    (hL : noL K = true) (KX : K.In s₁.heap) (hns : s₁.heap.Ns mainGlobals mg) (hb : s₁.heap.Ns builtinsNs mb) (hbb : ∀ x : Str, x ≠ "__name__" → mb x = bootBuiltins x) (hlim : s₁.heap.NoLimit) (hg : s₁.gens = #[])
    (ha : s₁.heap.get? a = some { cls := .type "list", data := .seq vs.toArray }) (hi : IntsAre vs ns) (hl : ns.length ≤ sizeLine) (hr : Room k callerA)
    (F : ∀ base : Heap, K.In base → base.Ns mainGlobals mg → FnG P w K mg base (L2.CX P w) k fa fd [x] sp) (hbind : ∀ (s : Shared) (u : Value), BindsTo s fd ⟨[u], []⟩ [(x, u)])
    (hsp : ∀ H : Hp, (∃ o, H a = some (.frz o (.lst (ns.map V.int)))) → sp [.ref a] H (fun v _ => v = .bl true) fun _ _ _ => False) :
    codeAny (model P w) callerA (.call (.ref fa) ⟨[.ref a], []⟩) (fun r s' => r = .ok (.ret (.bool true)) ∧ OldK s₁.heap s'.heap ∧ s'.os = s₁.os ∧ AllBare s'.gens) s₁ := by
  have rv := vals_ints hi
  have hK : ∀ o, K.lookup a = some o → False := fun o e => by
    have := KX a o e
    rw [ha] at this; cases this
    exact noL_of hL e rfl
  obtain ⟨H, hH⟩ : ∃ H : Hp, H = fun b => if b = a then some (.frz { cls := .type "list", data := .seq vs.toArray } (.lst (ns.map V.int))) else none := ⟨_, rfl⟩
  have at_ : H a = some (.frz { cls := .type "list", data := .seq vs.toArray } (.lst (ns.map V.int))) := by rw [hH]; exact if_pos rfl
  have off : ∀ b, b ≠ a → H b = none := fun b n => by rw [hH]; exact if_neg n
  have baseG : ∀ {b : Addr} {o : Obj}, s₁.heap.get? b = some o → b ≠ a → (hidT s₁.heap H).get? b = some o := fun e n => hidT_get e (off _ n)
  have ns1 : ∀ {b : Addr} {m : Str → Option Value}, s₁.heap.Ns b m → (hidT s₁.heap H).Ns b m := fun {b m} ⟨o, es, ep, e, d, r⟩ => ⟨o, es, ep, baseG e (fun q => by
    subst q
    rw [ha] at e; cases e
    cases d), d, r⟩
  have inB : K.In (hidT s₁.heap H) := fun b o e => baseG (KX b o e) fun q => hK o (q ▸ e)
  have hok : HOk P w H s₁.heap := fun b u z => by
    by_cases q : b = a
    · subst q
      rw [at_] at z; cases z
      exact ⟨ha, by rw [List.length_map]; exact hl, vs, _, rv, ha⟩
    · rw [off b q] at z; cases z
  have hM : Mod K mg (hidT s₁.heap H) := ⟨inB, ns1 hns, ⟨mb, ns1 hb, hbb⟩, let ⟨mc, h1, h2⟩ := hlim; ⟨mc, ns1 h1, h2⟩⟩
  have e0 : Env0 P w K mg (hidT s₁.heap H) callerA [] s₁ H := ⟨rfl, hM, fun b o e => of_hidT e, Nat.le_of_eq (hidT_size _ _), trivial, fun b hb => absurd (show b ∈ ([] : List Addr) from hb) (by simp), hok, .of_eq hg⟩
  refine codeAny_mono ((F _ inB (ns1 hns)).run callerA rfl [] s₁ H ⟨[.ref a], []⟩ [.ref a] [.ref a] _ _ hr e0 (hbind s₁ (.ref a)) (.cons rfl .nil) (hsp H ⟨_, at_⟩)) fun r s' h => ?_
  cases r with
  | error e => obtain ⟨_, _, _, _, _, _, _, _, _, _, _, _, h⟩ := h; exact h.elim
  | ok fl =>
    cases fl with
    | next => exact False.elim h
    | brk => exact False.elim h
    | cont => exact False.elim h
    | ret u =>
      obtain ⟨v, H', os, bare, un, hok', r', q⟩ := h
      obtain rfl : v = .bl true := q
      obtain rfl : u = Value.bool true := r'
      refine ⟨rfl, OldK.of_keep fun b o e => ?_, os, bare⟩
      by_cases q : b = a
      · subst q
        obtain ⟨e2, _⟩ := hok' b _ (un.frzs b _ _ at_)
        rw [ha] at e; cases e
        exact e2
      · exact un.keep b o e (off b q) (by intro z; exact absurd (show b ∈ ([] : List Addr) from z) (by simp)) (by simp)
theorem walkG {l : PySem.W.OpenLaw} {n k : Nat} {q : Program} {loose : List Str} {XP : (Str → Option Value) → Heap → Prop} {YP : World → Heap → Prop} {d : DefRec} {K : Params → PySem.W.Frag} {sp : PySem.W.Frag → Sp} {x : Str}
    (hn : l.most = some n) (hn2 : n ≤ sizeLine) (hdf : d.params.defaults = []) (hr : Room k callerA)
    (hY : ∀ (w : World) (h : Heap), YP w h → (K w.params).In h) (hL : ∀ w : World, noL (K w.params) = true)
    (F : ∀ (w : World) (s₀ : Shared) (mg mb : Str → Option Value) (fa : Addr) (h : Heap), PySem.W.Ground q loose [] XP w s₀ mg mb h → (K w.params).In h → mg d.name = some (.ref fa) →
      ∃ fd : FuncData, (∀ (s : Shared) (u : Value), BindsTo s fd ⟨[u], []⟩ [(x, u)]) ∧
        ∀ base : Heap, (K w.params).In base → base.Ns mainGlobals mg → FnG l.prog w (K w.params) mg base (L2.CX l.prog w) k fa fd [x] (sp (K w.params)))
    (hsp : ∀ (w : World) (H : Hp) (a : Addr) (ns : List Int), ns.length ≤ n → (∀ z ∈ ns, Builtin.Int.intBits z ≤ 1048576) → (∃ o, H a = some (.frz o (.lst (ns.map V.int)))) → sp (K w.params) [.ref a] H (fun v _ => v = .bl true) fun _ _ _ => False) :
    PySem.W.WalkO q loose XP YP l.row.toRowW d [] (fun f vs => PySem.call f vs) := by
  refine Att.attach_callB hn hdf fun w s₀ s₁ mg mb fa o pm cd doc a vs ns G Y ho hd hcd hmg hobj hints hlen hbits hg => ?_
  have KX := hY w _ Y
  obtain ⟨fd, hb, hF⟩ := F w s₀ mg mb fa _ G KX hmg
  exact lawG (hL w) KX G.T.g G.T.b G.T.builtins G.T.nolimit hg hobj hints (Nat.le_trans hlen hn2) hr hF hb fun H hO => hsp w H a ns hlen hbits hO
end Tr
namespace Tr
open PySem PySem.Spec L2
structure Keep (fx : Nat → Bool) (σ σ' : L2.St) : Prop where
  at_ : ∀ i, fx i = true → σ'[i]? = σ[i]?
  len : σ'.length = σ.length
theorem Keep.refl {fx : Nat → Bool} {σ : L2.St} : Keep fx σ σ := ⟨fun _ _ => rfl, rfl⟩
theorem Keep.trans {fx : Nat → Bool} {σ σ1 σ2 : L2.St} (h : Keep fx σ σ1) (k : Keep fx σ1 σ2) : Keep fx σ σ2 := ⟨fun i z => (k.at_ i z).trans (h.at_ i z), k.len.trans h.len⟩
theorem Keep.set {fx : Nat → Bool} {σ : L2.St} {i : Nat} {o : Option V} (h : fx i = false) : Keep fx σ (σ.set i o) := ⟨fun j z => by
  have : i ≠ j := fun e => by rw [e, z] at h; cases h
  exact List.getElem?_set_ne this, List.length_set⟩
section
variable (c : RC) (W : WX) (fx : Nat → Bool)
def PostS (σ : L2.St) (H : Hp) (F A : AS) (r : SR) (D : Ends) : Prop := match r with
  | .nx ρ' => ∀ σ' H' F' b, Stp H F A H' F' b → Good H' F' b → RE c H' F' ρ' σ' b → Keep fx σ σ' → D.nx σ' H'
  | .bk ρ' => ∀ σ' H' F' b, Stp H F A H' F' b → Good H' F' b → RE c H' F' ρ' σ' b → Keep fx σ σ' → D.bk σ' H'
  | .ct ρ' => ∀ σ' H' F' b, Stp H F A H' F' b → Good H' F' b → RE c H' F' ρ' σ' b → Keep fx σ σ' → D.ct σ' H'
  | .rt v ρ' => ∀ x σ' H' F' a b, Stp H F A H' F' (Uni a b) → Good H' F' (Uni a b) → Dis a b → R c H' F' v x a → RE c H' F' ρ' σ' b → Keep fx σ σ' → D.rt x H'
  | .er e ρ' => ∀ cls d σ' H' F' b, Stp H F A H' F' b → Good H' F' b → RX c H' F' e cls d → RE c H' F' ρ' σ' b → Keep fx σ σ' → W cls d σ' H'
  | .bad => False
def tS (f : SF) : TS := fun D σ H => ∃ ρ F A, Good H F A ∧ RE c H F ρ σ A ∧ PostS c W fx σ H F A (f ρ) D
def SS (X : Cx) (st : Stmt) (f : SF) : Prop := PS X st (tS c W fx f)
def SSs (X : Cx) (sts : List Stmt) (f : SF) : Prop := PSs X sts (tS c W fx f)
end
section
variable {c : RC} {W : WX} {fx : Nat → Bool} {σ σ1 : L2.St} {H H1 : Hp} {F A F1 A1 b : AS} {D : Ends}
theorem PostS.base {r : SR} (h : PostS c W fx σ H F A r D) (s : Stp H F A H1 F1 A1) (k : Keep fx σ σ1) : PostS c W fx σ1 H1 F1 A1 r D := by
  cases r with
  | nx ρ' => exact fun σ' H' F' b t g e q => h σ' H' F' b (s.trans t) g e (k.trans q)
  | bk ρ' => exact fun σ' H' F' b t g e q => h σ' H' F' b (s.trans t) g e (k.trans q)
  | ct ρ' => exact fun σ' H' F' b t g e q => h σ' H' F' b (s.trans t) g e (k.trans q)
  | rt v ρ' => exact fun x σ' H' F' a b t g d r e q => h x σ' H' F' a b (s.trans t) g d r e (k.trans q)
  | er x ρ' => exact fun cls d σ' H' F' b t g r e q => h cls d σ' H' F' b (s.trans t) g r e (k.trans q)
  | bad => exact h
theorem PostS.sub {r : SR} (h : PostS c W fx σ H F A r D) (s : Sub A1 A) : PostS c W fx σ H F A1 r D := by
  cases r with
  | nx ρ' => exact fun σ' H' F' b t g e q => h σ' H' F' b (t.more s) g e q
  | bk ρ' => exact fun σ' H' F' b t g e q => h σ' H' F' b (t.more s) g e q
  | ct ρ' => exact fun σ' H' F' b t g e q => h σ' H' F' b (t.more s) g e q
  | rt v ρ' => exact fun x σ' H' F' a b t g d r e q => h x σ' H' F' a b (t.more s) g d r e q
  | er x ρ' => exact fun cls d σ' H' F' b t g r e q => h cls d σ' H' F' b (t.more s) g r e q
  | bad => exact h
theorem tS.expr {α ν : Type} {rel : Hp → AS → α → ν → AS → Prop} {f : Env → Res α} {k : α → Env → SR} {K : ν → Hp → Prop} (h : tS c W fx (fun ρ => sOf (f ρ) k) D σ H)
    (hk : ∀ v x ρ1 H1 F1 a b, Good H1 F1 (Uni a b) → Dis a b → rel H1 F1 v x a → RE c H1 F1 ρ1 σ b → PostS c W fx σ H1 F1 (Uni a b) (k v ρ1) D → K x H1) : tG c W rel f σ H K := by
  obtain ⟨ρ, F, A, g, e, p⟩ := h
  refine ⟨ρ, F, A, g, e, ?_⟩
  cases q : f ρ with
  | ok v ρ1 =>
    simp only [q] at p
    intro x H1 F1 a b s g1 d r e1
    exact hk v x ρ1 H1 F1 a b g1 d r e1 (p.base s Keep.refl)
  | er x ρ1 =>
    simp only [q] at p
    intro cls d H1 F1 b s g1 r e1
    exact p cls d σ H1 F1 b s g1 r e1 Keep.refl
  | bad => simp only [q] at p; exact p.elim
theorem PostS.nxt {ρ : Env} (p : PostS c W fx σ H F A (.nx ρ) D) (g : Good H F A) (sb : Sub b A) (e : RE c H F ρ σ1 b) (k : Keep fx σ σ1) : D.nx σ1 H :=
  p σ1 H F b (Stp.refl.drop sb) (g.sub sb) e k
theorem RE.storeAny {ρ : Env} {a b : AS} {i : Nat} {x : PV} {v : V} (e : RE c H F ρ σ b) (r : R c H F x v a) (d : Dis a b) : RE c H F (ρ.set i (some x)) (σ.set i (some v)) (Uni a b) := by
  rcases Nat.lt_or_ge i ρ.length with l | l
  · exact e.store l r d
  · rw [List.set_eq_of_length_le l, List.set_eq_of_length_le (by rw [e.len]; exact l)]
    exact e.mono Sub.r
end
section
variable {X : Cx} {c : RC} {W : WX} {fx : Nat → Bool} {st : Stmt} {sts : List Stmt} {s u : SF} {e : Expr} {f : EF} {t : TF} {pos : Pos}
theorem ss_nil : SSs c W fx X [] sNx := by
  refine PSs.weak pss_nil fun D σ H q => ?_
  obtain ⟨ρ, F, A, g, e, p⟩ := q
  exact p.nxt g (Sub.refl _) e Keep.refl
theorem ss_cons (h : SS c W fx X st s) (hs : SSs c W fx X sts u) : SSs c W fx X (st :: sts) (sSeq s u) := by
  refine PSs.weak (pss_cons h hs) fun D σ H q => ?_
  obtain ⟨ρ, F, A, g, e, p⟩ := q
  refine ⟨ρ, F, A, g, e, ?_⟩
  unfold sSeq at p
  cases q : s ρ with
  | nx ρ1 =>
    simp only [q] at p
    exact fun σ1 H1 F1 b t g1 e1 k => ⟨ρ1, F1, b, g1, e1, p.base t k⟩
  | bk ρ1 => simp only [q] at p; exact p
  | ct ρ1 => simp only [q] at p; exact p
  | rt v ρ1 => simp only [q] at p; exact p
  | er v ρ1 => simp only [q] at p; exact p
  | bad => simp only [q] at p; exact p.elim
theorem ss_one (h : SS c W fx X st s) : SSs c W fx X [st] s := pss_one h
theorem ss_do (h : SE X c W e f) (hs : swapsWith e none pos.line X.env = pure false := by rfl) : SS c W fx X (.Expr e pos) (sDo f) := by
  refine PS.weak (ps_expr h hs) fun D σ H q => ?_
  exact tS.expr (rel := relE c) q fun v x ρ1 H1 F1 a b g d r e p => p.nxt g Sub.r e Keep.refl
theorem ss_ret (h : SE X c W e f) : SS c W fx X (.Return (some e) pos) (sRet f) := by
  refine PS.weak (ps_ret h) fun D σ H q => ?_
  exact tS.expr (rel := relE c) q fun v x ρ1 H1 F1 a b g d r e p => p x σ H1 F1 a b Stp.refl g d r e Keep.refl
theorem ss_if {a b : List Stmt} (hc : ST X c W e t) (ha : SSs c W fx X a s) (hb : SSs c W fx X b u) : SS c W fx X (.If e a b pos) (sIf t s u) := by
  refine PS.weak (ps_if hc ha hb) fun D σ H q => ?_
  refine tS.expr (rel := relB) q fun v x ρ1 H1 F1 a b g d r e p => ?_
  cases (show x = v from r)
  cases v with
  | true => rw [if_pos rfl]; rw [if_pos rfl] at p; exact ⟨ρ1, F1, _, g.sub Sub.r, e, p.sub Sub.r⟩
  | false => rw [if_neg Bool.false_ne_true]; rw [if_neg Bool.false_ne_true] at p; exact ⟨ρ1, F1, _, g.sub Sub.r, e, p.sub Sub.r⟩
theorem ss_set {i : Nat} {x : Str} {pos' : Pos} (hN : X.N.Nodup) (hi : X.N[i]? = some x) (hx : Loc X.env.scope x) (hf : fx i = false) (h : SE X c W e f) (hs : swapsWith e (some (.Name x pos')) pos.line X.env = pure false := by rfl)
    (hff : X.fn x = true ∨ X.env.scope.names.lookup x = some .local := by first | exact .inl rfl | exact .inr rfl | assumption) : SS c W fx X (.Assign [.Name x pos'] e pos) (sSet i f) := by
  refine PS.weak (ps_set hN hi hx h hs hff) fun D σ H q => ?_
  refine tS.expr (rel := relE c) q fun v y ρ1 H1 F1 a b g d r e p => ?_
  exact p.nxt g (Sub.refl _) (e.storeAny r d) (Keep.set hf)
end
def spF (c : RC) (n : Nat) (sem : FF) : Sp := fun xs H Q E => xs.length = n ∧ ∃ vs F A, Good H F A ∧ Rs c H F vs xs A ∧ match sem vs with
  | .ok v vs' => ∀ x H' F' a b, Stp H F A H' F' (Uni a b) → Good H' F' (Uni a b) → Dis a b → R c H' F' v x a → Rs c H' F' vs' xs b → Q x H'
  | .er e vs' => ∀ cls d H' F' b, Stp H F A H' F' b → Good H' F' b → RX c H' F' e cls d → Rs c H' F' vs' xs b → E cls d H'
  | .bad => False
section
variable {P : Program} {w : World} {K : PySem.W.Frag} {mg : Str → Option Value} {base : Heap} {c : RC}
def fxOf (fx : List Bool) : Nat → Bool := fun i => fx.getD i false
theorem outs_ok {H H0 : Hp} {F F0 b : AS} : ∀ {fx : List Bool} {as as' : List PV} {xs : List V} {ρ : Env} {σ : L2.St} {A1 : AS}, outs fx as ρ = some as' → RE c H F ρ σ b → (∀ i, fx.getD i false = true → σ[i]? = (xs.map some)[i]?) → Rs c H0 F0 as xs A1 → xs.length = fx.length →
    (∀ (v : PV) (x : V), R c H0 F0 v x Emp → R c H F v x Emp) → Rs c H F as' xs b
  | [], [], as', xs, ρ, σ, A1, h, e, k, r, l, up => by cases h; exact (List.eq_nil_of_length_eq_zero l)
  | true :: fx, a :: as, as', xs, some v :: ρ, σ, A1, h, e, k, r, l, up => by
    rw [outs] at h
    cases q : outs fx as ρ with
    | none => rw [q] at h; cases h
    | some ws =>
      rw [q] at h; cases h
      obtain ⟨x, xs', b1, d1, ex, s1, s2, dd, ra, rs⟩ := r
      subst ex
      obtain ⟨y, σ', b2, d2, es, t1, t2, dd2, rv, re⟩ := e
      subst es
      have e0 := k 0 rfl
      simp at e0
      subst e0
      exact ⟨y, xs', b2, d2, rfl, t1, t2, dd2, rv, outs_ok q re (fun i z => by simpa using k (i + 1) (by simpa using z)) rs (by simpa using l) up⟩
  | false :: fx, a :: as, as', xs, o :: ρ, σ, A1, h, e, k, r, l, up => by
    rw [outs] at h
    split at h
    · rename_i f
      cases q : outs fx as ρ with
      | none => rw [q] at h; cases h
      | some ws =>
        rw [q] at h; cases h
        obtain ⟨x, xs', b1, d1, ex, s1, s2, dd, ra, rs⟩ := r
        subst ex
        have tail : ∃ y σ' d2, σ = y :: σ' ∧ Sub d2 b ∧ RE c H F ρ σ' d2 := by
          cases o with
          | none => obtain ⟨y, σ', es, re⟩ := e; exact ⟨y, σ', b, es, Sub.refl _, re⟩
          | some v => obtain ⟨y, σ', b2, d2, es, t1, t2, dd2, rv, re⟩ := e; exact ⟨some y, σ', d2, es, t2, re⟩
        obtain ⟨y, σ', d2, es, t2, re⟩ := tail
        subst es
        exact ⟨x, xs', Emp, d2, rfl, Sub.emp, t2, Dis.empl, up _ _ (R.emp ra f), outs_ok q re (fun i z => by simpa using k (i + 1) (by simpa using z)) rs (by simpa using l) up⟩
    · cases h
  | true :: fx, a :: as, as', xs, none :: ρ, σ, A1, h, e, k, r, l, up => by rw [outs] at h; cases h; all_goals simp
  | [], a :: as, as', xs, ρ, σ, A1, h, e, k, r, l, up => by cases ρ <;> (rw [outs] at h; cases h; all_goals simp)
  | true :: fx, [], as', xs, ρ, σ, A1, h, e, k, r, l, up => by cases ρ <;> (rw [outs] at h; cases h; all_goals simp)
  | false :: fx, [], as', xs, ρ, σ, A1, h, e, k, r, l, up => by cases ρ <;> (rw [outs] at h; cases h; all_goals simp)
  | true :: fx, a :: as, as', xs, [], σ, A1, h, e, k, r, l, up => by rw [outs] at h; cases h; all_goals simp
  | false :: fx, a :: as, as', xs, [], σ, A1, h, e, k, r, l, up => by rw [outs] at h; cases h; all_goals simp
end
structure Dk (X : Cx) (c : RC) (W : WX) (k : Nat) : Prop where
  K : X.K = c.K
  hr : Room k X.A
  calm : X.calm = true
  nd : X.N.Nodup
  tk : Takes X W
  po : PassesOwn (model X.prog X.w) X.A X.env X.xe
  gd : X.A.guards = some []
structure Ds (X : Cx) (c : RC) : Prop where
  K : X.K = c.K
  un : X.A.units + 64 < cLine
  nd : X.N.Nodup
  gd : X.A.guards = some []
theorem Dk.s {X : Cx} {c : RC} {W : WX} {k : Nat} (h : Dk X c W k) : Ds X c := ⟨h.K, by have := h.hr.un; omega, h.nd, h.gd⟩
instance {X : Cx} {c : RC} {W : WX} {k : Nat} : CoeOut (Dk X c W k) (Ds X c) := ⟨Dk.s⟩
abbrev W0 : WX := fun _ _ _ _ => False
theorem Dk.blk {X : Cx} {c : RC} {W : WX} {k : Nat} (h : Dk X c W k) (s : Shared) (H : Hp) (sc : Scope) (ce : PySem.Env) (fp : List Addr) : Dk (X.blk s H sc ce fp) c W0 k := ⟨h.K, h.hr, h.calm, h.nd, takes0, PassesOwn.never, h.gd⟩
section
variable {P : Program} {w : World} {K : PySem.W.Frag} {mg : Str → Option Value} {base : Heap} {c : RC}
theorem ok_def {x qual : Str} {st : Stmt} {f : Addr} {fd : FuncData} {N ps : List Str} {k : Nat} {sem : SF} (fx : List Bool) (hK : K = c.K) (Fn : Fun K x qual st f fd) (S : FnScope N ps (defScope st)) (hl : fx.length = ps.length) (hN : ps.length ≤ N.length)
    (body : ∀ (X : Cx) (W : WX), (∃ cdv A outer s H E, X = cxOf (L2.CX P w) P w K mg base N qual (defScope st) f cdv A outer s H E) → Dk X c W k → SSs c W (fxOf fx) X (defBody st) sem) :
    FnG P w K mg base (L2.CX P w) (k + 1) f fd ps (spF c ps.length (mk fx N.length sem)) := by
  refine Fun.okG Fn S (fun vs H Q E h => h.1) fun cdv A outer s H vs Q E gA hr h => ?_
  obtain ⟨l, as, F, A0, g, r, p⟩ := h
  refine ⟨_, body _ (fun cls d _ H' => E cls d H') ⟨cdv, A, outer, s, H, E, rfl⟩ ⟨hK, hr, rfl, S.nd, takes_of rfl rfl rfl rfl, passes_of rfl, gA⟩, ?_⟩
  have las : as.length = vs.length := by rw [r.len]
  have est : L2.start N vs = vs.map some ++ List.replicate (N.length - fx.length) none := by
    unfold L2.start
    rw [l, hl]
  refine ⟨as.map some ++ List.replicate (N.length - fx.length) none, F, A0, g, by rw [est]; exact RE.start _ r, ?_⟩
  unfold mk at p
  rw [if_pos (by rw [las, l, hl])] at p
  have up : ∀ {H' : Hp} {F' b : AS}, Stp H F A0 H' F' b → ∀ (v : PV) (x : V), R c H F v x Emp → R c H' F' v x Emp := fun t v x q => q.step g t Dis.empl
  have kp : ∀ {σ' : L2.St}, Keep (fxOf fx) (L2.start N vs) σ' → ∀ i, fx.getD i false = true → σ'[i]? = (vs.map some)[i]? := fun {σ'} q i z => by
    rw [q.at_ i z, est]
    have hi : i < fx.length := by
      rcases Nat.lt_or_ge i fx.length with h | h
      · exact h
      · rw [List.getD_eq_getElem?_getD, List.getElem?_eq_none h] at z; cases z
    rw [List.getElem?_append_left (by rw [List.length_map, l, ← hl]; exact hi)]
  have lv : vs.length = fx.length := by rw [l, hl]
  cases q : sem (as.map some ++ List.replicate (N.length - fx.length) none) with
  | nx ρ' =>
    simp only [q] at p
    intro σ' H' F' b t g1 e1 kk
    unfold fin at p
    cases o : outs fx as ρ' with
    | none => simp only [o] at p
    | some ws =>
      simp only [o] at p
      exact p .non H' F' Emp b (t.drop (Sub.uni Sub.emp (Sub.refl _))) (g1.sub (Sub.uni Sub.emp (Sub.refl _))) Dis.empl rfl (outs_ok o e1 (kp kk) r lv (up t))
  | rt v ρ' =>
    simp only [q] at p
    intro x σ' H' F' a b t g1 d rv e1 kk
    unfold fin at p
    cases o : outs fx as ρ' with
    | none => simp only [o] at p
    | some ws =>
      simp only [o] at p
      exact p x H' F' a b t g1 d rv (outs_ok o e1 (kp kk) r lv (up t))
  | er x ρ' =>
    simp only [q] at p
    intro cls d σ' H' F' b t g1 rx e1 kk
    unfold finE at p
    cases o : outs fx as ρ' with
    | none => simp only [o] at p
    | some ws =>
      simp only [o] at p
      exact p cls d H' F' b t g1 rx (outs_ok o e1 (kp kk) r lv (up t))
  | bk ρ' => simp only [q] at p
  | ct ρ' => simp only [q] at p
  | bad => simp only [q] at p
end
end Tr
set_option autoImplicit false
namespace Tr
def goAll : List Opd → Env → Res (List (Option PV))
  | [], ρ => .ok [] ρ
  | o :: os, ρ => (o.go ρ).bind fun t ρ1 => (goAll os ρ1).bind fun ts ρ2 => .ok (t :: ts) ρ2
def take1 (o : Opd) (t : Option PV) (ρ : Env) : Option (PV × Env) := match o with
  | .nm i => match slot ρ i with
    | some v => if fro v = true then some (v, ρ) else some (v, ρ.set i none)
    | none => none
  | .ev _ => match t with
    | some v => some (v, ρ)
    | none => none
def takeAll : List Opd → List (Option PV) → Env → Option (List PV × Env)
  | [], [], ρ => some ([], ρ)
  | o :: os, t :: ts, ρ => match take1 o t ρ with
    | some (v, ρ1) => match takeAll os ts ρ1 with
      | some (vs, ρ2) => some (v :: vs, ρ2)
      | none => none
    | none => none
  | _, _, _ => none
def give1 (o : Opd) (v w : PV) (ρ : Env) : Env := match o with
  | .nm i => if fro v = true then ρ else ρ.set i (some w)
  | .ev _ => ρ
def giveAll : List Opd → List PV → List PV → Env → Env
  | o :: os, v :: vs, w :: ws, ρ => give1 o v w (giveAll os vs ws ρ)
  | _, _, _, ρ => ρ
def back {α : Type} (r : FR) (k : PV → Env → Res α) (g : List PV → Env) : Res α := match r with
  | .ok v ws => k v (g ws)
  | .er e ws => .er e (g ws)
  | .bad => .bad
def eCall (sem : FF) (os : List Opd) (ds : List PV) : EF := fun ρ => (goAll os ρ).bind fun ts ρ1 => match takeAll os ts ρ1 with
  | none => .bad
  | some (vs, ρ2) => back (sem (vs ++ ds)) .ok fun ws => giveAll os vs ws ρ2
end Tr
namespace Tr
open PySem PySem.Spec L2
section
variable (c : RC) (σ : L2.St) (H : Hp) (F : AS)
def Tmps : List Opd → List (Option PV) → List V → AS → Prop
  | [], ts, xs, _ => ts = [] ∧ xs = []
  | o :: os, ts, xs, a => ∃ t ts' x xs' b d, ts = t :: ts' ∧ xs = x :: xs' ∧ Sub b a ∧ Sub d a ∧ Dis b d ∧ Tmp c σ H F o t x b ∧ Tmps os ts' xs' d
end
def Nms (σ : L2.St) : List Opd → List V → Prop
  | [], _ => True
  | o :: os, xs => ∃ x xs', xs = x :: xs' ∧ (match o with | .nm i => σ[i]? = some (some x) | .ev _ => True) ∧ Nms σ os xs'
section
variable {β μ : Type} {c : RC} {W : WX} {rel' : Hp → AS → β → μ → AS → Prop} {σ : L2.St} {H H' : Hp} {F A F' A' : AS}
theorem Tmps.nms : ∀ {os : List Opd} {ts : List (Option PV)} {xs : List V} {a : AS}, Tmps c σ H F os ts xs a → Nms σ os xs
  | [], _, _, _, _ => trivial
  | o :: os, _, _, _, ⟨t, ts', x, xs', b, d, _, e, _, _, _, tm, tl⟩ => ⟨x, xs', e, by
      cases o with
      | nm i => exact tm
      | ev f => trivial, tl.nms⟩
theorem Tmps.step (g : Good H F A) (s : Stp H F A H' F' A') : ∀ {os : List Opd} {ts : List (Option PV)} {xs : List V} {a : AS}, Tmps c σ H F os ts xs a → Dis a A → Tmps c σ H' F' os ts xs a
  | [], _, _, _, h, _ => h
  | o :: os, _, _, _, ⟨t, ts', x, xs', b, d, e1, e2, s1, s2, k, tm, tl⟩, dd => ⟨t, ts', x, xs', b, d, e1, e2, s1, s2, k, tm.step g s (dd.mono s1 (Sub.refl _)), tl.step g s (dd.mono s2 (Sub.refl _))⟩
def tOs (c : RC) (W : WX) : List Opd → TA
  | [] => tNil
  | o :: os => tCons (tO c W o) (tOs c W os)
theorem tOs.next : ∀ {os : List Opd} {g : List (Option PV) → Env → Res β} {Q : μ → Hp → Prop} {K : List V → Hp → Prop} {ρ : Env} {t b : AS} {H : Hp} {F A : AS},
    Good H F A → Sub t A → Sub b A → Dis t b → RE c H F ρ σ b → Post c W rel' σ H F A ((goAll os ρ).bind g) Q →
    (∀ us xs ρ1 H1 F1 a1 b1, Good H1 F1 (Uni t (Uni a1 b1)) → Dis t (Uni a1 b1) → Dis a1 b1 → Tmps c σ H1 F1 os us xs a1 → RE c H1 F1 ρ1 σ b1 → Stp H F b H1 F1 (Uni a1 b1) →
      Post c W rel' σ H1 F1 (Uni t (Uni a1 b1)) (g us ρ1) Q → K xs H1) → tOs c W os σ H K
  | [], g, Q, K, ρ, t, b, H, F, A, gd, st, sb, d, e, p, k => by
    refine k [] [] ρ H F Emp b (gd.sub (Sub.uni st (Sub.uni Sub.emp sb))) (fun q x y => y.elim (fun z => z) (d q x)) Dis.empl ⟨rfl, rfl⟩ e (Stp.refl.drop (Sub.uni Sub.emp (Sub.refl _))) (Post.sub p (Sub.uni st (Sub.uni Sub.emp sb)))
  | o :: os, g, Q, K, ρ, t, b, H, F, A, gd, st, sb, d, e, p, k => by
    have p' : Post c W rel' σ H F A ((o.go ρ).bind fun t ρ1 => (goAll os ρ1).bind fun ts ρ2 => g (t :: ts) ρ2) Q := by
      unfold goAll at p
      cases q : o.go ρ with
      | ok u ρ1 =>
        simp only [q, Res.bind_ok] at p ⊢
        cases q2 : goAll os ρ1 with
        | ok us ρ2 => simp only [q2, Res.bind_ok] at p ⊢; exact p
        | er x ρ2 => simp only [q2, Res.bind_er] at p ⊢; exact p
        | bad => simp only [q2, Res.bind_bad] at p; exact p.elim
      | er x ρ1 => simp only [q, Res.bind_er] at p ⊢; exact p
      | bad => simp only [q, Res.bind_bad] at p; exact p.elim
    refine tO.next gd st sb d e p' fun u x ρ1 H1 F1 a1 b1 g1 d1 d2 tm e1 s1 p1 => ?_
    refine tOs.next (os := os) (t := Uni t a1) (b := b1) g1 (Sub.uni Sub.l (Sub.l.trans Sub.r)) (Sub.r.trans Sub.r) ?_ e1 p1 fun us xs ρ2 H2 F2 a2 b2 g2 d3 d4 tms e2 s2 p2 => ?_
    · exact Dis.uni (fun q y z => d1 q y (.inr z)) d2
    have g1b := g1.sub (show Sub b1 _ from Sub.r.trans Sub.r)
    have tm2 := tm.step g1b s2 d2
    have sw : Sub (Uni t (Uni (Uni a1 a2) b2)) (Uni (Uni t a1) (Uni a2 b2)) := by
      intro q y
      rcases y with y | (y | y) | y
      · exact .inl (.inl y)
      · exact .inl (.inr y)
      · exact .inr (.inl y)
      · exact .inr (.inr y)
    have d12 : Dis a1 a2 := fun q y z => d3 q (.inr y) (.inl z)
    refine k (u :: us) (x :: xs) ρ2 H2 F2 (Uni a1 a2) b2 (g2.sub sw) ?_ ?_ ⟨u, us, x, xs, a1, a2, rfl, rfl, Sub.l, Sub.r, d12, tm2, tms⟩ e2 ?_ (p2.sub sw)
    · intro q y z
      rcases z with (z | z) | z
      · exact d1 q y (.inl z)
      · exact d3 q (.inl y) (.inl z)
      · exact d3 q (.inl y) (.inr z)
    · exact Dis.uni (fun q y z => d3 q (.inr y) (.inr z)) d4
    · refine (s1.trans ((s2.frame (B := a1)))).drop ?_
      intro q y
      rcases y with (y | y) | y
      · exact .inl y
      · exact .inr (.inl y)
      · exact .inr (.inr y)
theorem take_ok : ∀ {os : List Opd} {ts : List (Option PV)} {xs : List V} {a b : AS} {ρ ρ2 : Env} {vs : List PV}, Tmps c σ H F os ts xs a → RE c H F ρ σ b → Dis a b → takeAll os ts ρ = some (vs, ρ2) →
    ∃ a2 b2, Sub a2 (Uni a b) ∧ Sub b2 b ∧ Dis a2 b2 ∧ Rs c H F vs xs a2 ∧ RE c H F ρ2 σ b2
  | [], _, _, a, b, ρ, ρ2, vs, ⟨rfl, rfl⟩, e, d, h => by
    rw [takeAll] at h; cases h
    exact ⟨Emp, b, Sub.emp, Sub.refl _, Dis.empl, rfl, e⟩
  | o :: os, _, _, a, b, ρ, ρ2, vs, ⟨t, ts, x, xs, a1, d1, rfl, rfl, s1, s2, k, tm, tl⟩, e, d, h => by
    rw [takeAll] at h
    cases q : take1 o t ρ with
    | none => simp only [q] at h; cases h
    | some z =>
      obtain ⟨v, ρ1⟩ := z
      simp only [q] at h
      cases q2 : takeAll os ts ρ1 with
      | none => simp only [q2] at h; cases h
      | some z2 =>
        obtain ⟨ws, ρ3⟩ := z2
        simp only [q2] at h
        cases h
        have one : ∃ a3 b3, Sub a3 (Uni a1 b) ∧ Sub b3 b ∧ Dis a3 b3 ∧ (∀ q, a3 q → d1 q → False) ∧ R c H F v x a3 ∧ RE c H F ρ1 σ b3 := by
          cases o with
          | nm i =>
            rw [take1] at q
            cases q3 : slot ρ i with
            | none => simp only [q3] at q; cases q
            | some v' =>
              simp only [q3] at q
              have ex : σ[i]? = some (some x) := tm
              split at q
              · rename_i f
                cases q
                obtain ⟨y, d2, h1, h2, h3⟩ := e.look q3
                rw [ex] at h1; cases h1
                exact ⟨Emp, b, Sub.emp, Sub.refl _, Dis.empl, fun _ z => z.elim, R.emp h3 f, e⟩
              · cases q
                obtain ⟨y, b3, d3, h1, h2, h3, h4, h5, h6⟩ := e.take q3
                rw [ex] at h1; cases h1
                exact ⟨b3, d3, h2.trans Sub.r, h3, h4, fun q y z => d q (s2 q z) (h2 q y), h5, h6⟩
          | ev f =>
            obtain ⟨v', e1, r⟩ := tm
            subst e1
            rw [take1] at q
            cases q
            exact ⟨a1, b, Sub.l, Sub.refl _, d.mono s1 (Sub.refl _), k, r, e⟩
        obtain ⟨a3, b3, t1, t2, t3, t4, r, e3⟩ := one
        obtain ⟨a4, b4, u1, u2, u3, rs, e4⟩ := take_ok tl e3 (d.mono s2 t2) q2
        refine ⟨Uni a3 a4, b4, ?_, u2.trans t2, ?_, ⟨x, xs, a3, a4, rfl, Sub.l, Sub.r, ?_, r, rs⟩, e4⟩
        · refine Sub.uni (fun q y => (t1 q y).imp_left (s1 q)) fun q y => (u1 q y).elim (fun z => .inl (s2 q z)) fun z => .inr (t2 q z)
        · exact Dis.uni (fun q y z => t3 q y (u2 q z)) u3
        · intro q y z
          rcases u1 q z with z | z
          · exact t4 q y z
          · exact t3 q y z
theorem give_ok : ∀ {os : List Opd} {vs ws : List PV} {xs ys : List V} {a b : AS} {ρ : Env}, Nms σ os xs → Rs c H F ws (xs ++ ys) a → RE c H F ρ σ b → Dis a b → RE c H F (giveAll os vs ws ρ) σ (Uni a b)
  | [], vs, ws, xs, ys, a, b, ρ, n, r, e, d => by
    rw [giveAll]
    · exact e.mono Sub.r
    · intros; simp_all
  | o :: os, vs, ws, _, ys, a, b, ρ, ⟨x, xs, rfl, n1, n2⟩, r, e, d => by
    cases vs with
    | nil => rw [giveAll]; exact e.mono Sub.r; intros; simp_all
    | cons v vs =>
      cases ws with
      | nil => cases r
      | cons w ws =>
        rw [giveAll]
        obtain ⟨x', xs', a1, a2, ex, s1, s2, k, rw', rs⟩ := r
        cases ex
        have e2 := give_ok (vs := vs) n2 rs e (d.mono s2 (Sub.refl _))
        cases o with
        | nm i =>
          rw [give1]
          split
          · exact e2.mono (Sub.uni (s2.trans Sub.l) Sub.r)
          · have e3 := RE.put (e2.wipe i) n1 rw' (fun q y z => z.elim (k q y) (d q (s1 q y)))
            rw [List.set_set] at e3
            exact e3.mono (Sub.uni (s1.trans Sub.l) (Sub.uni (s2.trans Sub.l) Sub.r))
        | ev f => exact e2.mono (Sub.uni (s2.trans Sub.l) Sub.r)
theorem call_ok {sem : FF} {os : List Opd} {ts : List (Option PV)} {xs : List V} {dps : List PV} {dvs : List V} {a b : AS} {ρ : Env} {Q : VK} {n : Nat} (g : Good H F A) (sa : Sub a A) (sb : Sub b A) (d : Dis a b) (tm : Tmps c σ H F os ts xs a) (e : RE c H F ρ σ b)
    (hd : Rs c H F dps dvs Emp) (hn : os.length + dps.length = n)
    (p : Post c W (relE c) σ H F A (match takeAll os ts ρ with | none => .bad | some (vs, ρ2) => back (sem (vs ++ dps)) .ok fun ws => giveAll os vs ws ρ2) Q) : spF c n sem (xs ++ dvs) H Q (fun cls d H' => W cls d σ H') := by
  cases q : takeAll os ts ρ with
  | none => simp only [q] at p; exact p.elim
  | some z =>
    obtain ⟨vs, ρ2⟩ := z
    simp only [q] at p
    obtain ⟨a2, b2, s1, s2, d2, r, e2⟩ := take_ok tm e d q
    have r2 : Rs c H F (vs ++ dps) (xs ++ dvs) a2 := (Rs.append r hd Dis.empr).mono fun q z => z.elim id False.elim
    have sa2 : Sub a2 A := fun q z => (s1 q z).elim (sa q) (sb q)
    have sb2 : Sub b2 A := s2.trans sb
    have lx : xs.length = os.length := by
      have go : ∀ {os : List Opd} {ts : List (Option PV)} {xs : List V} {a : AS}, Tmps c σ H F os ts xs a → xs.length = os.length := by
        intro os
        induction os with
        | nil => intro ts xs a h; rw [h.2]; rfl
        | cons o os ih => rintro ts xs a ⟨_, _, _, _, _, _, _, e, _, _, _, _, tl⟩; rw [e, List.length_cons, List.length_cons, ih tl]
      exact go tm
    refine ⟨by rw [List.length_append, lx, hd.len]; exact hn, vs ++ dps, F, a2, g.sub sa2, r2, ?_⟩
    have g2 := g.sub (Sub.uni sa2 sb2)
    have later : ∀ {H' : Hp} {F' A' : AS}, Stp H F a2 H' F' A' → Good H' F' A' → Dis A' b2 ∧ Good H' F' b2 ∧ RE c H' F' ρ2 σ b2 ∧ Stp H F A H' F' (Uni b2 A') := fun s g' =>
      ⟨(s.apart (g.sub sb2) d2.sym).sym, (g.sub sb2).kept s g' d2.sym, e2.step (g.sub sa2) s d2.sym, (s.frame (B := b2)).more (Sub.uni sb2 sa2)⟩
    cases q2 : sem (vs ++ dps) with
    | bad => simp only [q2, back] at p; exact p.elim
    | ok v ws =>
      simp only [q2, back] at p
      intro x H' F' a3 b3 s g3 d3 rv rw'
      obtain ⟨l1, l2, l3, l4⟩ := later s g3
      have e4 := give_ok (vs := vs) tm.nms rw' l3 (fun q y z => l1 q (.inr y) z)
      refine p x H' F' a3 (Uni b3 b2) (l4.drop ?_) (((g3.uni l2)).sub ?_) ?_ rv e4
      · exact fun q y => y.elim (fun z => .inr (.inl z)) fun z => z.elim (fun z => .inr (.inr z)) .inl
      · exact fun q y => y.elim (fun z => .inl (.inl z)) fun z => z.elim (fun z => .inl (.inr z)) .inr
      · exact fun q y z => z.elim (d3 q y) (l1 q (.inl y))
    | er x ws =>
      simp only [q2, back] at p
      intro cls dd H' F' b3 s g3 rx rw'
      obtain ⟨l1, l2, l3, l4⟩ := later s g3
      have e4 := give_ok (vs := vs) tm.nms rw' l3 (fun q y z => l1 q y z)
      exact p cls dd H' F' (Uni b3 b2) (l4.drop (Sub.uni Sub.r Sub.l)) (g3.uni l2) rx e4
end
section
variable {X : Cx} {c : RC} {W : WX} {k j n : Nat} {f : Addr} {fd : FuncData} {ps : List Str} {sem : FF} {dvs : List V} {dps : List PV} {ds : List Value} {x : Str} {p pos : Pos} {e : Expr} {es : List Expr} {os : List Opd}
def SOs (X : Cx) (c : RC) (W : WX) (es : List Expr) (os : List Opd) : Prop := PA X es (tOs c W os)
theorem sos_nil : SOs X c W [] [] := pa_nil
theorem sos_cons {o : Opd} (h : SO X c W e o) (hs : SOs X c W es os) (st : starEach (e :: es) X.env = (false, eval e X.env) :: starEach es X.env := by rfl) : SOs X c W (e :: es) (o :: os) := pa_cons h hs st
theorem call_q {os : List Opd} {σ : L2.St} {H : Hp} {Q : VK} (hd : ∀ H F, Rs c H F dps dvs Emp) (hn : os.length + dps.length = n) (q : tEx c W (eCall sem os dps) σ H Q) : tOs c W os σ H fun xs H1 => spF c n sem (xs ++ dvs) H1 Q (fun cls d H' => W cls d σ H') := by
  obtain ⟨ρ, F, A, gd, e, p⟩ := q
  refine tOs.next (t := Emp) gd Sub.emp (Sub.refl _) Dis.empl e p fun us xs ρ1 H1 F1 a1 b1 g1 _ d tm e1 s p1 => ?_
  exact call_ok g1 (Sub.l.trans Sub.r) (Sub.r.trans Sub.r) d tm e1 (hd _ _) hn p1
theorem se_call (D : Dk X c W j) (G : FnG X.prog X.w X.K X.mg X.base (L2.CX X.prog X.w) k f fd ps (spF c n sem)) (hr : k ≤ j) (hg : Gl X x) (hm : X.mg x = some (.ref f)) (hk : PySem.W.keepIn X.K (.ref f) = true) (hb : Binds X.K fd ps ds) (hd : Vals dvs ds) (hp : ∀ H F, Rs c H F dps dvs Emp)
    (ha : SOs X c W (e :: es) os) (hn : os.length + dps.length = n) (hdb : (x == ("__debug__" : Str)) = false := by decide) (he : starEach (e :: es) X.env = (false, eval e X.env) :: starEach es X.env := by rfl) (hpl : (backTo pos (starEach es X.env)).any (·.1) = false := by rfl) :
    SE X c W (.Call (.Name x p) (e :: es) [] pos) (eCall sem os dps) :=
  PE.weak (pe_callG (E := fun σ cls d H' => W cls d σ H') G D.gd (D.hr.mono hr) hg hm hk hb hd (fun σ => passAt D.tk σ) ha hdb he hpl) fun σ H Q q => call_q hp hn q
end
end Tr
set_option autoImplicit false
namespace Tr
abbrev BF := PV → Env → Option Env
def bN (i : Nat) : BF := fun v ρ => some (ρ.set i (some v))
def bAll : List BF → List PV → Env → Option Env
  | [], [], ρ => some ρ
  | b :: bs, v :: vs, ρ => match b v ρ with
    | some ρ1 => bAll bs vs ρ1
    | none => none
  | _, _, _ => none
def bT (bs : List BF) : BF := fun v ρ => match v with
  | .tup xs => bAll bs xs ρ
  | _ => none
def loop (b : BF) (s : SF) : List PV → Env → SR
  | [], ρ => .nx ρ
  | x :: xs, ρ => match b x ρ with
    | none => .bad
    | some ρ1 => match s ρ1 with
      | .nx ρ2 => loop b s xs ρ2
      | .ct ρ2 => loop b s xs ρ2
      | .bk ρ2 => .nx ρ2
      | r => r
def after (r : SR) (g : Env → Env) : SR := match r with
  | .nx ρ => .nx (g ρ)
  | .bk ρ => .bk (g ρ)
  | .ct ρ => .ct (g ρ)
  | .rt v ρ => .rt v (g ρ)
  | .er e ρ => .er e (g ρ)
  | .bad => .bad
abbrev IF := Env → Res (List PV)
def iRange1 (f : EF) : IF := fun ρ => (f ρ).bind fun v ρ1 => match v with
  | .int n => if decide (-(2 ^ 62) ≤ n) && decide (n < 2 ^ 62) && decide (n.toNat ≤ big) then .ok ((List.range n.toNat).map fun i => .int (i : Nat)) ρ1 else .bad
  | _ => .bad
def sFor (w : IF) (b : BF) (s : SF) : SF := fun ρ => sOf (w ρ) fun xs ρ1 => loop b s xs ρ1
def sSetT (b : BF) (f : EF) : SF := fun ρ => sOf (f ρ) fun v ρ1 => match b v ρ1 with
  | some ρ2 => .nx ρ2
  | none => .bad
def Res.bindB {α β : Type} (r : Res α) (k : α → Env → Res β) : Res β := match r with
  | .ok a ρ => k a ρ
  | _ => .bad
@[simp] theorem Res.bindB_ok {α β : Type} (a : α) (ρ : Env) (k : α → Env → Res β) : Res.bindB (.ok a ρ) k = k a ρ := rfl
def wipeE : List Nat → Env → Env
  | [], ρ => ρ
  | i :: is, ρ => (wipeE is ρ).set i none
def compL (own : List Nat) (b : BF) (t : TF) (f : EF) : List PV → Env → Res (List PV)
  | [], ρ => .ok [] ρ
  | x :: xs, ρ => match b x ρ with
    | none => .bad
    | some ρ1 => (t ρ1).bindB fun c ρ2 => if c = true then (f ρ2).bindB fun v ρ3 => (compL own b t f xs (wipeE own ρ3)).bindB fun vs ρ4 => .ok (v :: vs) ρ4 else compL own b t f xs (wipeE own ρ2)
def restore : List Nat → Env → Env → Env
  | [], _, ρ => ρ
  | i :: is, ρ0, ρ => match slot ρ0 i with
    | some v => if fro v = true then (restore is ρ0 ρ).set i (some v) else restore is ρ0 ρ
    | none => restore is ρ0 ρ
def tYes : TF := fun ρ => .ok true ρ
def eComp (own : List Nat) (w : IF) (b : BF) (t : TF) (f : EF) : EF := fun ρ => (w ρ).bind fun xs ρ1 => (compL own b t f xs (wipeE own ρ1)).bindB fun vs ρ2 => .ok (.lst true vs) (restore own ρ1 ρ2)
end Tr
namespace Tr
open PySem PySem.Spec L2
section
variable (c : RC) (fx : Nat → Bool)
def tGt (b : BF) : TG := fun x σ H Q => ∃ v ρ F a e, Good H F (Uni a e) ∧ Dis a e ∧ R c H F v x a ∧ RE c H F ρ σ e ∧ ∃ ρ', b v ρ = some ρ' ∧
  ∀ σ' H' F' e', Stp H F (Uni a e) H' F' e' → Good H' F' e' → RE c H' F' ρ' σ' e' → Keep fx σ σ' → Q σ' H'
def tGts (bs : List BF) : TGs := fun xs σ H Q => ∃ vs ρ F a e, Good H F (Uni a e) ∧ Dis a e ∧ Rs c H F vs xs a ∧ RE c H F ρ σ e ∧ ∃ ρ', bAll bs vs ρ = some ρ' ∧
  ∀ σ' H' F' e', Stp H F (Uni a e) H' F' e' → Good H' F' e' → RE c H' F' ρ' σ' e' → Keep fx σ σ' → Q σ' H'
def SG (X : Cx) (tg : Expr) (b : BF) : Prop := PG X tg (tGt c fx b)
def SGs (X : Cx) (ts : List Expr) (bs : List BF) : Prop := PGs X ts (tGts c fx bs)
end
section
variable {X : Cx} {c : RC} {W : WX} {fx : Nat → Bool} {tg : Expr} {ts : List Expr} {b : BF} {bs : List BF} {pos : Pos}
theorem PG.weak {t t' : TG} (h : PG X tg t) (k : ∀ v σ H Q, t' v σ H Q → t v σ H Q) : PG X tg t' := ⟨fun pins s σ H v u Q I r q => h.run pins s σ H v u Q I r (k v σ H Q q)⟩
theorem PGs.weak {t t' : TGs} (h : PGs X ts t) (k : ∀ v σ H Q, t' v σ H Q → t v σ H Q) : PGs X ts t' := ⟨fun pins s σ H v u Q I r q => h.run pins s σ H v u Q I r (k v σ H Q q)⟩
theorem sg_name {i : Nat} {x : Str} (hN : X.N.Nodup) (hi : X.N[i]? = some x) (hx : Loc X.env.scope x) (hf : fx i = false) (hff : X.fn x = true ∨ X.env.scope.names.lookup x = some .local := by first | exact .inl rfl | exact .inr rfl | assumption) : SG c fx X (.Name x pos) (bN i) := by
  refine PG.weak (pg_name hN hi hx hff) fun x σ H Q q => ?_
  obtain ⟨v, ρ, F, a, e, g, d, r, re, ρ', hb, k⟩ := q
  cases hb
  exact k _ H F (Uni a e) Stp.refl g (re.storeAny r d) (Keep.set hf)
theorem sgs_nil : SGs c fx X [] [] := by
  refine PGs.weak pgs_nil fun xs σ H Q q => ?_
  obtain ⟨vs, ρ, F, a, e, g, d, r, re, ρ', hb, k⟩ := q
  cases vs with
  | nil =>
    rw [bAll] at hb; cases hb
    exact ⟨r, k σ H F e (Stp.refl.drop Sub.r) (g.sub Sub.r) re Keep.refl⟩
  | cons _ _ => rw [bAll] at hb; cases hb; all_goals (intros; simp_all)
theorem sgs_cons (h : SG c fx X tg b) (hs : SGs c fx X ts bs) (st : (assignEach (tg :: ts) X.env).map (·.2) = assign tg X.env :: (assignEach ts X.env).map (·.2) := by rfl) : SGs c fx X (tg :: ts) (b :: bs) := by
  refine PGs.weak (pgs_cons h hs st) fun xs σ H Q q => ?_
  obtain ⟨vs, ρ, F, a, e, g, d, r, re, ρ', hb, k⟩ := q
  cases vs with
  | nil => rw [bAll] at hb; cases hb; all_goals (intros; simp_all)
  | cons v vs =>
    rw [bAll] at hb
    cases q1 : b v ρ with
    | none => simp only [q1] at hb; cases hb
    | some ρ1 =>
      simp only [q1] at hb
      obtain ⟨x, xs', a1, a2, ex, s1, s2, dd, rv, rs⟩ := r
      refine ⟨x, xs', ex, v, ρ, F, a1, e, g.sub (Sub.uni (s1.trans Sub.l) Sub.r), d.mono s1 (Sub.refl _), rv, re, ρ1, q1, fun σ1 H1 F1 e1 t1 g1 r1 k1 => ?_⟩
      have da : Dis a2 (Uni a1 e) := fun q y z => z.elim (fun z => dd q z y) (d q (s2 q y))
      have g2 : Good H F a2 := g.sub (s2.trans Sub.l)
      have ga := g2.kept t1 g1 da
      have de := t1.apart g2 da
      refine ⟨vs, ρ1, F1, a2, e1, ga.uni g1, de, rs.step (g.sub (Sub.uni (s1.trans Sub.l) Sub.r)) t1 da, r1, ρ', hb, fun σ2 H2 F2 e2 t2 g3 r2 k2 => ?_⟩
      refine k σ2 H2 F2 e2 (((t1.frame (B := a2)).more ?_).trans t2) g3 r2 (k1.trans k2)
      exact Sub.uni (s2.trans Sub.l) (Sub.uni (s1.trans Sub.l) Sub.r)
theorem bAll_len : ∀ {bs : List BF} {vs : List PV} {ρ ρ' : Env}, bAll bs vs ρ = some ρ' → vs.length = bs.length
  | [], [], _, _, _ => rfl
  | b :: bs, v :: vs, ρ, ρ', h => by
    rw [bAll] at h
    cases q : b v ρ with
    | none => simp only [q] at h; cases h
    | some ρ1 => simp only [q] at h; rw [List.length_cons, List.length_cons, bAll_len h]
  | [], _ :: _, _, _, h => by rw [bAll] at h; cases h; all_goals (intros; simp_all)
  | _ :: _, [], _, _, h => by rw [bAll] at h; cases h; all_goals (intros; simp_all)
theorem sg_tup {k : Nat} (hK : X.K = c.K) (hc : X.calm = true) (h : SGs c fx X ts bs) (hn : (assignEach ts X.env).length = bs.length := by rfl) (hst : (assignEach ts X.env).findIdx? (·.1) = none := by rfl) : SG c fx X (.Tuple ts k pos) (bT bs) := by
  refine PG.weak (pg_tup hc h hn hst) fun x σ H Q q => ?_
  obtain ⟨v, ρ, F, a, e, g, d, r, re, ρ', hb, kk⟩ := q
  cases v <;> first | (cases hb; done) | skip
  obtain ⟨p, vs, rfl, q1, l, rs⟩ := r.tupR
  have hb' : bAll bs _ ρ = some ρ' := hb
  refine ⟨p, vs, rfl, by rw [hK]; exact q1, by rw [rs.len, bAll_len hb'], _, ρ, F, a, e, g, d, rs, re, ρ', hb', kk⟩
end
structure Src (c : RC) (J : It) (P : Hp → AS → Prop) (t : AS) (xs : List PV) : Prop where
  len : xs.length ≤ big
  go : ∀ i H F, P H F → i < xs.length → J.go i H
  stop : ∀ H F, P H F → J.stop xs.length H
  yld : ∀ i H F x H' z, P H F → Good H F Emp → J.yld i H x H' → xs[i]? = some z → Stp H F Emp H' F Emp ∧ R c H' F z x Emp
  step : ∀ H F A H' F' A', P H F → Good H F A → Stp H F A H' F' A' → Dis t A → P H' F'
section
variable {c : RC} {W : WX} {fx fx' : Nat → Bool} {b : BF} {s : SF}
theorem Keep.of {σ σ' : L2.St} (h : Keep fx' σ σ') (l : ∀ i, fx i = true → fx' i = true) : Keep fx σ σ' := ⟨fun i z => h.at_ i (l i z), h.len⟩
theorem loop_ok {J : It} {P : Hp → AS → Prop} {t : AS} {xs : List PV} {gv : Env → Env} {D : Ends} {σ0 : L2.St} (S : Src c J P t xs) (le : ∀ i, fx i = true → fx' i = true)
    (hgv : ∀ {σ : L2.St} {H : Hp} {F e : AS} {ρ : Env}, P H F → Good H F (Uni t e) → Dis t e → RE c H F ρ σ e → Keep fx' σ0 σ → RE c H F (gv ρ) σ (Uni t e))
    {σ : L2.St} {H : Hp} {F e : AS} {ρ : Env} (p0 : P H F) (g0 : Good H F (Uni t e)) (d0 : Dis t e) (e0 : RE c H F ρ σ e) (k0 : Keep fx' σ0 σ) (q0 : PostS c W fx σ H F (Uni t e) (after (loop b s xs ρ) gv) D) :
    ∃ Wv : Nat → Nat → L2.St → Hp → Prop, (∃ m, Wv 0 m σ H) ∧ ∀ i m σ H, Wv i m σ H →
      (J.stop i H ∧ D.nx σ H) ∨ (J.go i H ∧ ∃ N : L2.St → Hp → Prop, (∀ σ' H', N σ' H' → ∃ m', m' < m ∧ Wv (i + 1) m' σ' H') ∧ ∀ x H', J.yld i H x H' → tGt c fx' b x σ H' fun σ2 H2 => tS c W fx' s { D with nx := N, ct := N, bk := D.nx } σ2 H2) := by
  refine ⟨fun i m σ H => m = xs.length - i ∧ i ≤ xs.length ∧ ∃ ρ F e, P H F ∧ Good H F (Uni t e) ∧ Dis t e ∧ RE c H F ρ σ e ∧ Keep fx' σ0 σ ∧ PostS c W fx σ H F (Uni t e) (after (loop b s (xs.drop i) ρ) gv) D,
    ⟨xs.length, rfl, Nat.zero_le _, ρ, F, e, p0, g0, d0, e0, k0, q0⟩, ?_⟩
  rintro i m σ H ⟨rfl, hi, ρ, F, e, p, g, d, re, kp, q⟩
  by_cases hlt : i < xs.length
  · have hd : xs.drop i = xs[i] :: xs.drop (i + 1) := List.drop_eq_getElem_cons hlt
    rw [hd, loop] at q
    refine .inr ⟨S.go i H F p hlt, fun σ' H' => ∃ ρ F e, P H' F ∧ Good H' F (Uni t e) ∧ Dis t e ∧ RE c H' F ρ σ' e ∧ Keep fx' σ0 σ' ∧ PostS c W fx σ' H' F (Uni t e) (after (loop b s (xs.drop (i + 1)) ρ) gv) D,
      fun σ' H' h => ⟨xs.length - (i + 1), by omega, rfl, hlt, h⟩, fun x H1 y => ?_⟩
    obtain ⟨s1, rx⟩ := S.yld i H F x H1 xs[i] p (g.sub Sub.emp) y (List.getElem?_eq_getElem hlt)
    cases hb : b xs[i] ρ with
    | none => simp only [hb, after] at q; exact q.elim
    | some ρ1 =>
      simp only [hb] at q
      have gE : Good H F Emp := g.sub Sub.emp
      have g1E : Good H1 F Emp := ⟨fun _ z => z.elim, fun q z => by
        obtain ⟨o, eo⟩ := g.fro q z
        exact ⟨o, s1.keep q o eo id⟩⟩
      have g1 : Good H1 F (Uni t e) := g.kept s1 g1E Dis.empr
      have p1 : P H1 F := S.step _ _ _ _ _ _ p gE s1 Dis.empr
      have re1 := re.step gE s1 Dis.empr
      refine ⟨xs[i], ρ, F, Emp, e, g1.sub (Sub.uni Sub.emp Sub.r), Dis.empl, rx, re1, ρ1, hb, fun σ2 H2 F2 e2 t2 g2 r2 k2 => ?_⟩
      have dte : Dis t (Uni Emp e) := fun q y z => z.elim (fun z => z) (d q y)
      have gt : Good H1 F t := g1.sub Sub.l
      have gt2 := gt.kept t2 g2 dte
      have d2 := t2.apart gt dte
      have p2 : P H2 F2 := S.step _ _ _ _ _ _ p1 (g1.sub (Sub.uni Sub.emp Sub.r)) t2 dte
      have big : Stp H F (Uni t e) H2 F2 (Uni t e2) := by
        have a1 := ((s1.frame (B := Uni t e)).more (Sub.uni (Sub.refl _) Sub.emp)).drop (B := Uni t (Uni Emp e)) (Sub.uni (Sub.l.trans Sub.l) (Sub.uni Sub.emp (Sub.r.trans Sub.l)))
        exact a1.trans t2.frame
      have q2 := q.base big (k2.of le)
      have k02 := kp.trans k2
      refine ⟨ρ1, F2, e2, g2, r2, ?_⟩
      have stay : ∀ {σ3 : L2.St} {H3 : Hp} {F3 e3 : AS}, Stp H2 F2 e2 H3 F3 e3 → Good H3 F3 e3 → Keep fx' σ2 σ3 → P H3 F3 ∧ Good H3 F3 (Uni t e3) ∧ Dis t e3 ∧ Stp H2 F2 (Uni t e2) H3 F3 (Uni t e3) ∧ Keep fx' σ0 σ3 := fun t3 g3 k3 =>
        ⟨S.step _ _ _ _ _ _ p2 g2 t3 d2, (gt2.kept t3 g3 d2).uni g3, t3.apart gt2 d2, t3.frame, k02.trans k3⟩
      cases hs : s ρ1 with
      | bad => simp only [hs, after] at q2; exact q2.elim
      | nx ρ3 =>
        simp only [hs] at q2
        intro σ3 H3 F3 e3 t3 g3 r3 k3
        obtain ⟨a1, a2, a3, a4, a5⟩ := stay t3 g3 k3
        exact ⟨ρ3, F3, e3, a1, a2, a3, r3, a5, q2.base a4 (k3.of le)⟩
      | ct ρ3 =>
        simp only [hs] at q2
        intro σ3 H3 F3 e3 t3 g3 r3 k3
        obtain ⟨a1, a2, a3, a4, a5⟩ := stay t3 g3 k3
        exact ⟨ρ3, F3, e3, a1, a2, a3, r3, a5, q2.base a4 (k3.of le)⟩
      | bk ρ3 =>
        simp only [hs, after] at q2
        intro σ3 H3 F3 e3 t3 g3 r3 k3
        obtain ⟨a1, a2, a3, a4, a5⟩ := stay t3 g3 k3
        exact q2 σ3 H3 F3 (Uni t e3) a4 a2 (hgv a1 a2 a3 r3 a5) (k3.of le)
      | rt v ρ3 =>
        simp only [hs, after] at q2
        intro x3 σ3 H3 F3 a e3 t3 g3 dd rv r3 k3
        obtain ⟨a1, a2, a3, a4, a5⟩ := stay t3 g3 k3
        refine q2 x3 σ3 H3 F3 a (Uni t e3) (a4.drop ?_) (a2.sub ?_) ?_ rv (hgv a1 (a2.sub ?_) (fun q y z => a3 q y (.inr z)) r3 a5) (k3.of le)
        · exact Sub.uni (Sub.l.trans Sub.r) (Sub.uni Sub.l (Sub.r.trans Sub.r))
        · exact Sub.uni (Sub.l.trans Sub.r) (Sub.uni Sub.l (Sub.r.trans Sub.r))
        · exact fun q y z => z.elim (fun z => a3 q z (.inl y)) (dd q y)
        · exact Sub.uni Sub.l (Sub.r.trans Sub.r)
      | er x ρ3 =>
        simp only [hs, after] at q2
        intro cls dd σ3 H3 F3 e3 t3 g3 rx r3 k3
        obtain ⟨a1, a2, a3, a4, a5⟩ := stay t3 g3 k3
        exact q2 cls dd σ3 H3 F3 (Uni t e3) a4 a2 rx (hgv a1 a2 a3 r3 a5) (k3.of le)
  · have ei : i = xs.length := by omega
    subst ei
    rw [List.drop_length, loop] at q
    exact .inl ⟨S.stop H F p, q σ H F (Uni t e) Stp.refl g (hgv p g d re kp) Keep.refl⟩
end
section
variable {X : Cx} {c : RC} {W : WX} {fx : Nat → Bool} {tg it : Expr} {b : BF} {s : SF} {pos : Pos} {body : List Stmt} {f : EF} {w : IF}
def relS (c : RC) : Hp → AS → List PV → It → AS → Prop := fun H F xs J _ => ∃ P : Hp → AS → Prop, P H F ∧ Src c J P Emp xs
def SI (X : Cx) (c : RC) (W : WX) (tg it : Expr) (w : IF) : Prop := PI X tg it (tG c W (relS c) w)
theorem PI.weak {t t' : TI} (h : PI X tg it t) (k : ∀ σ H Q, t' σ H Q → t σ H Q) : PI X tg it t' := ⟨fun pins s σ H R I q => h.run pins s σ H R I (k σ H R q)⟩
theorem PI.or {t t' : TI} (h : PI X tg it t) (h' : PI X tg it t') : PI X tg it (fun σ H Q => t σ H Q ∨ t' σ H Q) := ⟨fun pins s σ H R I q => q.elim (h.run pins s σ H R I) (h'.run pins s σ H R I)⟩
theorem Rs.getV {H : Hp} {F : AS} {xs : List PV} {vs : List V} {i : Nat} {z : PV} {x : V} (r : Rs c H F xs vs Emp) (h : xs[i]? = some z) (hx : vs[i]? = some x) : R c H F z x Emp := by
  obtain ⟨v, b, h1, h2, h3⟩ := r.get h
  rw [h1] at hx; cases hx
  exact R.mono h3 h2
theorem src_range {lo : Int} {n : Nat} (l : n ≤ big) : Src c (Itr lo n) (fun _ _ => True) Emp ((List.range n).map fun i => .int (lo + (i : Nat))) where
  len := by rw [List.length_map, List.length_range]; exact l
  go := fun i H F _ l => by rw [List.length_map, List.length_range] at l; exact l
  stop := fun H F _ => by rw [List.length_map, List.length_range]; exact Nat.le_refl _
  yld := fun i H F x H' z _ g y e => by
    obtain ⟨rfl, rfl⟩ := y
    rw [List.getElem?_map] at e
    cases q : (List.range n)[i]? with
    | none => rw [q] at e; cases e
    | some j =>
      rw [q] at e; cases e
      have : j = i := by
        obtain ⟨h1, h2⟩ := List.getElem?_eq_some_iff.mp q
        rw [List.getElem_range] at h2
        exact h2.symm
      subst this
      exact ⟨Stp.refl, rfl⟩
  step := fun _ _ _ _ _ _ _ _ _ _ => trivial
theorem si_range1 {a : Expr} {p : Pos} (hg : Gl X "range") (hm : X.mg "range" = none) (h : SE X c W a f) (hs : starEach [a] X.env = [(false, eval a X.env)] := by rfl) (st : starEach [a] X.env = (false, eval a X.env) :: starEach [] X.env := by rfl) : SI X c W tg (.Call (.Name "range" p) [a] [] pos) (iRange1 f) := by
  refine PI.weak (pi_range1 hg hm (pa_cons h pa_nil st) hs) fun σ H Q q => ?_
  refine tG.bind (rel := relE c) q fun v x ρ1 H1 F1 a b g d r e p => ?_
  cases v with
  | int n =>
    simp only at p
    split at p
    · rename_i hb
      simp only [Bool.and_eq_true, decide_eq_true_eq] at hb
      have S := src_range (c := c) (lo := 0) (n := n.toNat) hb.2
      simp only [Int.zero_add] at S
      exact ⟨n, by rw [show x = V.int n from r], hb.1.1, hb.1.2, p.now g Sub.r ⟨_, trivial, S⟩ e⟩
    · exact p.elim
  | _ => exact p.elim
theorem ss_for {k : Nat} (D : Dk X c W k) (hi : SI X c W tg it w) (hg : SG c fx X tg b) (hb : SSs c W fx X body s) (hs : ∀ x, foldedSetIterable it X.env x = pure x := by intro _; rfl) : SS c W fx X (.For tg it body [] pos) (sFor w b s) := by
  refine PS.weak (ps_for D.po D.calm hi hg hb hs) fun D σ H q => ?_
  refine tS.expr (rel := relS c) q fun xs J ρ1 H1 F1 a e g d r re p => ?_
  obtain ⟨P, hp, S⟩ := r
  have p' : PostS c W fx σ H1 F1 (Uni Emp e) (after (loop b s xs ρ1) id) D := by
    have h := p.sub (show Sub (Uni Emp e) (Uni a e) from Sub.uni Sub.emp Sub.r)
    have ea : ∀ r, after r id = r := fun r => by cases r <;> rfl
    rw [ea]; exact h
  exact loop_ok (fx := fx) (fx' := fx) (gv := id) S (fun _ h => h) (fun _ _ _ re _ => re.mono Sub.r) hp (g.sub (Sub.uni Sub.emp Sub.r)) Dis.empl re Keep.refl p'
end
end Tr
namespace Tr
open PySem PySem.Spec L2
section
variable {c : RC} {H H' : Hp} {F A : AS}
theorem Stp.put {p : Addr} {o : HO} (h : A p) : Stp H F A (upd H p o) F A := by
  refine ⟨fun q u e n => ?_, fun q e => ?_, fun _ h => h, fun _ h => .inl h, fun _ h => .inr h⟩
  · have : q ≠ p := fun z => n (by rw [z]; exact h)
    rw [upd_ne this]; exact e
  · by_cases z : q = p
    · subst z; rw [upd_same] at e; cases e
    · rw [upd_ne z] at e; exact e
theorem Good.put {p : Addr} {o : HO} (g : Good H F A) (h : A p) (m : Mu o) : Good (upd H p o) F A := by
  refine ⟨fun q y => ?_, fun q y => ?_⟩
  · obtain ⟨n, u, e, mu⟩ := g.own q y
    by_cases z : q = p
    · subst z; exact ⟨n, o, upd_same, m⟩
    · exact ⟨n, u, by rw [upd_ne z]; exact e, mu⟩
  · obtain ⟨u, e⟩ := g.fro q y
    by_cases z : q = p
    · subst z; exact ⟨o, upd_same⟩
    · exact ⟨u, by rw [upd_ne z]; exact e⟩
end
def fxOwn (own : List Nat) : Nat → Bool := fun i => !own.contains i
theorem wipe_at (σ : L2.St) : ∀ (own : List Nat) (i : Nat), (L2.wipe σ own)[i]? = if i ∈ own ∧ i < σ.length then some none else σ[i]?
  | [], i => by simp [L2.wipe]
  | v :: vs, i => by
    rw [L2.wipe]
    by_cases h : v = i
    · subst h
      by_cases l : v < σ.length
      · rw [List.getElem?_set_self (by rw [wipe_length]; exact l), if_pos ⟨List.mem_cons_self, l⟩]
      · rw [List.getElem?_eq_none (by rw [List.length_set, wipe_length]; omega), if_neg (fun z => l z.2), List.getElem?_eq_none (by omega)]
    · rw [List.getElem?_set_ne h, wipe_at σ vs i]
      have : (i ∈ v :: vs) = (i ∈ vs) := by
        rw [List.mem_cons]
        exact propext ⟨fun z => z.resolve_left fun e => h e.symm, .inr⟩
      simp only [this]
theorem wipe_keep {own : List Nat} {σ σ2 : L2.St} (k : Keep (fxOwn own) σ σ2) : L2.wipe σ2 own = L2.wipe σ own := by
  refine List.ext_getElem? fun i => ?_
  rw [wipe_at, wipe_at, k.len]
  by_cases h : i ∈ own
  · by_cases l : i < σ.length
    · rw [if_pos ⟨h, l⟩, if_pos ⟨h, l⟩]
    · rw [if_neg (fun z => l z.2), if_neg (fun z => l z.2), List.getElem?_eq_none (by rw [k.len]; omega), List.getElem?_eq_none (by omega)]
  · rw [if_neg (fun z => h z.1), if_neg (fun z => h z.1)]
    exact k.at_ i (by unfold fxOwn; simp [h])
theorem wipe_wipe (own : List Nat) (σ : L2.St) : L2.wipe (L2.wipe σ own) own = L2.wipe σ own := by
  refine List.ext_getElem? fun i => ?_
  rw [wipe_at, wipe_at, wipe_length]
  by_cases h : i ∈ own ∧ i < σ.length
  · rw [if_pos h, if_pos h]
  · rw [if_neg h]
section
variable {c : RC} {H H' : Hp} {F A : AS}
theorem RE.wipeσ : ∀ {ρ : Env} {σ : L2.St} {a : AS} (i : Nat), RE c H F (ρ.set i none) σ a → RE c H F (ρ.set i none) (σ.set i none) a
  | [], σ, a, i, h => by rw [show σ = [] from h]; rfl
  | o :: ρ, σ, a, 0, h => by
    obtain ⟨s, σ', e, h⟩ := h
    subst e
    exact ⟨none, σ', rfl, h⟩
  | none :: ρ, σ, a, i + 1, h => by
    obtain ⟨s, σ', e, h⟩ := h
    subst e
    exact ⟨s, _, rfl, RE.wipeσ i h⟩
  | some x :: ρ, σ, a, i + 1, h => by
    obtain ⟨v, σ', b, d, e, s1, s2, k, r, h⟩ := h
    subst e
    exact ⟨v, _, b, d, rfl, s1, s2, k, r, RE.wipeσ i h⟩
theorem RE.wipes : ∀ {ρ : Env} {σ : L2.St} {a : AS} (own : List Nat), RE c H F ρ σ a → RE c H F (wipeE own ρ) (L2.wipe σ own) a
  | _, _, _, [], h => h
  | ρ, σ, a, i :: is, h => RE.wipeσ i ((RE.wipes is h).wipe i)
theorem RE.unwipe1 : ∀ {ρ : Env} {σ σ' : L2.St} {a : AS} (i : Nat), RE c H F (ρ.set i none) σ a → σ.length = σ'.length → (∀ j, j ≠ i → σ[j]? = σ'[j]?) → RE c H F (ρ.set i none) σ' a
  | [], σ, σ', a, i, h, l, k => by
    rw [show σ = [] from h] at l
    exact (List.eq_nil_of_length_eq_zero l.symm)
  | o :: ρ, σ, σ', a, 0, h, l, k => by
    obtain ⟨s, σ1, e, h⟩ := h
    subst e
    cases σ' with
    | nil => cases l
    | cons s' σ2 =>
      have : σ1 = σ2 := List.ext_getElem? fun j => by simpa using k (j + 1) (by omega)
      subst this
      exact ⟨s', σ1, rfl, h⟩
  | none :: ρ, σ, σ', a, i + 1, h, l, k => by
    obtain ⟨s, σ1, e, h⟩ := h
    subst e
    cases σ' with
    | nil => cases l
    | cons s' σ2 =>
      exact ⟨s', σ2, rfl, RE.unwipe1 i h (by simpa using l) fun j hj => by simpa using k (j + 1) (by omega)⟩
  | some x :: ρ, σ, σ', a, i + 1, h, l, k => by
    obtain ⟨v, σ1, b, d, e, s1, s2, kk, r, h⟩ := h
    subst e
    cases σ' with
    | nil => cases l
    | cons s' σ2 =>
      have e0 : some v = s' := by simpa using k 0 (by omega)
      subst e0
      exact ⟨v, σ2, b, d, rfl, s1, s2, kk, r, RE.unwipe1 i h (by simpa using l) fun j hj => by simpa using k (j + 1) (by omega)⟩
theorem wipeE_none : ∀ (own : List Nat) (ρ : Env) (i : Nat), i ∈ own → slot (wipeE own ρ) i = none
  | v :: vs, ρ, i, h => by
    rw [wipeE]
    unfold slot
    by_cases e : v = i
    · subst e
      by_cases l : v < (wipeE vs ρ).length
      · rw [List.getElem?_set_self l]; rfl
      · rw [List.getElem?_eq_none (by rw [List.length_set]; omega)]; rfl
    · rw [List.getElem?_set_ne e]
      have := wipeE_none vs ρ i (List.mem_of_ne_of_mem (fun z => e z.symm) h)
      unfold slot at this
      exact this
theorem RE.unwipe : ∀ {ρ : Env} {σ : L2.St} {a : AS} (own : List Nat), RE c H F (wipeE own ρ) (L2.wipe σ own) a → RE c H F (wipeE own ρ) σ a := by
  intro ρ σ a own
  -- one slot after another
  have go : ∀ (pre : List Nat) (σ' : L2.St), (∀ i ∈ pre, i ∈ own) → RE c H F (wipeE own ρ) (L2.wipe σ' pre) a → RE c H F (wipeE own ρ) σ' a := by
    intro pre
    induction pre with
    | nil => intro σ' _ h; exact h
    | cons i is ih =>
      intro σ' hm h
      refine ih σ' (fun j hj => hm j (List.mem_cons_of_mem _ hj)) ?_
      have es : (wipeE own ρ).set i none = wipeE own ρ := by
        refine List.ext_getElem? fun j => ?_
        by_cases e : i = j
        · subst e
          by_cases l : i < (wipeE own ρ).length
          · rw [List.getElem?_set_self l]
            have := wipeE_none own ρ i (hm i List.mem_cons_self)
            unfold slot at this
            rw [List.getElem?_eq_getElem l] at this ⊢
            simp only [Option.join_some] at this
            rw [this]
          · rw [List.getElem?_eq_none (by rw [List.length_set]; omega), List.getElem?_eq_none (by omega)]
        · rw [List.getElem?_set_ne e]
      rw [L2.wipe] at h
      rw [← es] at h ⊢
      refine RE.unwipe1 i h (by rw [List.length_set]) fun j hj => ?_
      rw [List.getElem?_set_ne (fun z => hj z.symm)]
  exact go own σ fun _ h => h
theorem RE.restore {σ : L2.St} {ρ0 : Env} (hr : ∀ i v, slot ρ0 i = some v → fro v = true → ∃ x, σ[i]? = some (some x) ∧ R c H F v x Emp) : ∀ {own : List Nat} {ρ : Env} {a : AS}, RE c H F ρ σ a → RE c H F (Tr.restore own ρ0 ρ) σ a
  | [], _, _, h => h
  | i :: is, ρ, a, h => by
    rw [Tr.restore]
    have ih := RE.restore hr (own := is) h
    cases q : slot ρ0 i with
    | none => simp only; exact ih
    | some v =>
      simp only
      split
      · rename_i f
        obtain ⟨x, e, r⟩ := hr i v q f
        have := RE.put (ih.wipe i) e r Dis.empl
        rw [List.set_set] at this
        exact this.mono (Sub.uni Sub.emp (Sub.refl _))
      · exact ih
end
section
variable {α β ν μ : Type} {c : RC} {W : WX} {rel : Hp → AS → α → ν → AS → Prop} {rel' : Hp → AS → β → μ → AS → Prop} {σ σ0 : L2.St} {H : Hp} {F A : AS}
theorem tG.nextB {W' : WX} {f : Env → Res α} {g : α → Env → Res β} {Q : μ → Hp → Prop} {K : ν → Hp → Prop} {ρ : Env} {t b : AS}
    (gd : Good H F A) (st : Sub t A) (sb : Sub b A) (d : Dis t b) (e : RE c H F ρ σ b) (p : Post c W rel' σ0 H F A ((f ρ).bindB g) Q)
    (k : ∀ v x ρ1 H1 F1 a1 b1, Good H1 F1 (Uni t (Uni a1 b1)) → Dis t (Uni a1 b1) → Dis a1 b1 → rel H1 F1 v x a1 → RE c H1 F1 ρ1 σ b1 → Stp H F b H1 F1 (Uni a1 b1) →
      Post c W rel' σ0 H1 F1 (Uni t (Uni a1 b1)) (g v ρ1) Q → K x H1) : tG c W' rel f σ H K := by
  refine ⟨ρ, F, b, gd.sub sb, e, ?_⟩
  cases q : f ρ with
  | ok v ρ1 =>
    rw [q] at p
    intro x H1 F1 a1 b1 s g1 d1 r e1
    exact k v x ρ1 H1 F1 a1 b1 (((gd.sub st).kept s g1 d).uni g1) (s.apart (gd.sub st) d) d1 r e1 s (Post.base p ((s.frame (B := t)).more (Sub.uni st sb)))
  | er x ρ1 => rw [q] at p; exact p.elim
  | bad => rw [q] at p; exact p.elim
end
section
variable {c : RC} {W : WX} {b : BF} {tst : TF} {f : EF} {own : List Nat}
theorem comp_ok {J : It} {P : Hp → AS → Prop} {t : AS} {xs : List PV} {gv : Env → Env} {σ : L2.St} {Q : VK} (S : Src c J P t xs)
    (hgv : ∀ {H : Hp} {F e : AS} {ρ : Env}, P H F → Good H F (Uni t e) → Dis t e → RE c H F ρ (L2.wipe σ own) e → (∀ i ∈ own, slot ρ i = none) → RE c H F (gv ρ) σ (Uni t e))
    {H : Hp} {F e : AS} {ρ : Env} (p0 : P H F) (g0 : Good H F (Uni t e)) (d0 : Dis t e) (e0 : RE c H F ρ (L2.wipe σ own) e) (o0 : ∀ i ∈ own, slot ρ i = none)
    (q0 : Post c W (relE c) σ H F (Uni t e) ((compL own b tst f xs ρ).bindB fun vs ρ2 => .ok (.lst true vs) (gv ρ2)) Q) {D : Addr} (hD : H D = none) :
    ∃ Wv : Nat → Nat → Hp → Prop, (∃ m, Wv 0 m (upd H D (.lst []))) ∧ ∀ i m H, Wv i m H →
      (J.stop i H ∧ Q (.ref D) H) ∨ (J.go i H ∧ ∃ Nx : Hp → Prop, (∀ H', Nx H' → ∃ m', m' < m ∧ Wv (i + 1) m' H') ∧ ∀ x H', J.yld i H x H' → tGt c (fxOwn own) b x (L2.wipe σ own) H' fun σ2 H2 => L2.wipe σ2 own = L2.wipe σ own ∧
        tTs c W0 tst σ2 H2 fun d H3 => if d = true then tEx c W0 f σ2 H3 fun y H4 => ∃ acc, H4 D = some (.lst acc) ∧ acc.length < sizeLine ∧ Nx (upd H4 D (.lst (acc ++ [y]))) else Nx H3) := by
  let B : AS → AS := fun ad => Uni ad (fun q => q = D)
  let I : Nat → Hp → Prop := fun i H => ∃ ρ F e ad vs acc, P H F ∧ H D = some (.lst acc) ∧ Rs c H F vs acc ad ∧ vs.length ≤ i ∧ Good H F (Uni (Uni t (B ad)) e) ∧ Dis t (Uni (B ad) e) ∧ Dis (B ad) e ∧ ¬ ad D ∧ RE c H F ρ (L2.wipe σ own) e ∧
    (∀ i ∈ own, slot ρ i = none) ∧ Post c W (relE c) σ H F (Uni (Uni t (B ad)) e) ((compL own b tst f (xs.drop i) ρ).bindB fun ws ρ2 => .ok (.lst true (vs ++ ws)) (gv ρ2)) Q
  refine ⟨fun i m H => m = xs.length - i ∧ i ≤ xs.length ∧ I i H, ⟨xs.length, rfl, Nat.zero_le _, ?_⟩, ?_⟩
  · -- the start
    have sn : Stp H F (Uni t e) (upd H D (.lst [])) F (Uni (Uni t e) (fun q => q = D)) := Stp.new hD
    have gn := g0.new hD (o := HO.lst []) trivial
    have nD : ∀ q, Uni t e q → q ≠ D := fun q y z => by
      obtain ⟨_, o, eo, _⟩ := g0.own q y
      rw [z, hD] at eo; cases eo
    have sw : Sub (Uni (Uni t (B Emp)) e) (Uni (Uni t e) (fun q => q = D)) := by
      intro q y
      rcases y with (y | y | y) | y
      · exact .inl (.inl y)
      · exact y.elim
      · exact .inr y
      · exact .inl (.inr y)
    have gE : Good H F Emp := g0.sub Sub.emp
    have sE : Stp H F Emp (upd H D (.lst [])) F Emp := Stp.newT hD
    refine ⟨ρ, F, e, Emp, [], [], S.step _ _ _ _ _ _ p0 gE sE Dis.empr, upd_same, rfl, Nat.le_refl _, gn.sub sw, ?_, ?_, id, e0.step gE sE Dis.empr, o0, ?_⟩
    · exact fun q y z => z.elim (fun z => z.elim False.elim fun z => nD q (.inl y) z) fun z => d0 q y z
    · exact Dis.uni Dis.empl fun q y z => nD q (.inr z) y
    · exact Post.sub (Post.base q0 sn) sw
  · rintro i m H ⟨rfl, hi, ρ, F, e, ad, vs, acc, p, hacc, ra, lv, g, dT, dB, nD, re, ow, q⟩
    by_cases hlt : i < xs.length
    · have hd : xs.drop i = xs[i] :: xs.drop (i + 1) := List.drop_eq_getElem_cons hlt
      rw [hd, compL] at q
      refine .inr ⟨S.go i H F p hlt, I (i + 1), fun H' h => ⟨xs.length - (i + 1), by omega, rfl, hlt, h⟩, fun x H1 y => ?_⟩
      obtain ⟨s1, rx⟩ := S.yld i H F x H1 xs[i] p (g.sub Sub.emp) y (List.getElem?_eq_getElem hlt)
      cases hb : b xs[i] ρ with
      | none => simp only [hb] at q; exact q.elim
      | some ρ1 =>
        simp only [hb] at q
        have gE : Good H F Emp := g.sub Sub.emp
        have g1E : Good H1 F Emp := ⟨fun _ z => z.elim, fun q z => by
          obtain ⟨o, eo⟩ := g.fro q z
          exact ⟨o, s1.keep q o eo id⟩⟩
        have g1 := g.kept s1 g1E Dis.empr
        have p1 : P H1 F := S.step _ _ _ _ _ _ p gE s1 Dis.empr
        have re1 := re.step gE s1 Dis.empr
        have ra1 := ra.step gE s1 Dis.empr
        have hacc1 := s1.keep D _ hacc id
        have b1 : Stp H F (Uni (Uni t (B ad)) e) H1 F (Uni (Uni t (B ad)) e) := ((s1.frame (B := Uni (Uni t (B ad)) e)).more (Sub.uni (Sub.refl _) Sub.emp)).drop Sub.l
        have q1 := Post.base q b1
        refine ⟨xs[i], ρ, F, Emp, e, g1.sub (Sub.uni Sub.emp Sub.r), Dis.empl, rx, re1, ρ1, hb, fun σ2 H2 F2 e2 t2 g2 r2 k2 => ⟨(wipe_keep k2).trans (wipe_wipe _ _), ?_⟩⟩
        have dTe : Dis (Uni t (B ad)) e := Dis.uni (fun q y z => dT q y (.inr z)) dB
        have dTe' : Dis (Uni t (B ad)) (Uni Emp e) := fun q y z => z.elim (fun z => z) (dTe q y)
        have gT1 : Good H1 F (Uni t (B ad)) := g1.sub Sub.l
        have gT2 := gT1.kept t2 g2 dTe'
        have dT2 := t2.apart gT1 dTe'
        have ge1 : Good H1 F (Uni Emp e) := g1.sub (Sub.uni Sub.emp Sub.r)
        have p2 : P H2 F2 := S.step _ _ _ _ _ _ p1 ge1 t2 (fun q y z => dTe' q (.inl y) z)
        have ra2 := ra1.step ge1 t2 (fun q y z => dTe' q (.inr (.inl y)) z)
        have hacc2 := t2.keep D _ hacc1 (fun z => dTe' D (.inr (.inr rfl)) z)
        have q2 := Post.base q1 ((t2.frame (B := Uni t (B ad))).more (show Sub (Uni (Uni t (B ad)) (Uni Emp e)) (Uni (Uni t (B ad)) e) from Sub.uni Sub.l (Sub.uni Sub.emp Sub.r)))
        have q2' : Post c W (relE c) σ H2 F2 (Uni (Uni t (B ad)) e2) ((tst ρ1).bindB fun d ρ2 => ((if d = true then (f ρ2).bindB fun v ρ3 => (compL own b tst f (xs.drop (i + 1)) (wipeE own ρ3)).bindB fun vs ρ4 => .ok (v :: vs) ρ4 else compL own b tst f (xs.drop (i + 1)) (wipeE own ρ2)) : Res (List PV)).bindB fun ws ρ2 => .ok (.lst true (vs ++ ws)) (gv ρ2)) Q := by
          cases hq : tst ρ1 with
          | ok d ρ2 => simp only [hq, Res.bindB_ok] at q2 ⊢; exact q2
          | er _ _ => simp only [hq] at q2; exact q2.elim
          | bad => simp only [hq] at q2; exact q2.elim
        refine tG.nextB (rel := relB) (t := Uni t (B ad)) (b := e2) (gT2.uni g2) Sub.l Sub.r dT2 r2 q2' fun d d' ρ2 H3 F3 a3 e3 g3 dT3 d3 rd r3 s3 q3 => ?_
        cases (show d' = d from rd)
        have ge2 : Good H2 F2 e2 := g2
        have p3 : P H3 F3 := S.step _ _ _ _ _ _ p2 ge2 s3 (fun q y z => dT2 q (.inl y) z)
        have ra3 := ra2.step ge2 s3 (fun q y z => dT2 q (.inr (.inl y)) z)
        have hacc3 := s3.keep D _ hacc2 (fun z => dT2 D (.inr (.inr rfl)) z)
        have se3 : Sub e3 (Uni a3 e3) := Sub.r
        cases d with
        | false =>
          rw [if_neg Bool.false_ne_true] at q3 ⊢
          have wr := r3.wipes own
          rw [(wipe_keep k2).trans (wipe_wipe _ _)] at wr
          refine ⟨wipeE own ρ2, F3, e3, ad, vs, acc, p3, hacc3, ra3, Nat.le_succ_of_le lv, g3.sub (Sub.uni Sub.l (Sub.r.trans Sub.r)), ?_, ?_, nD, wr, fun i h => wipeE_none own _ i h, Post.sub q3 (Sub.uni Sub.l (Sub.r.trans Sub.r))⟩
          · exact fun q y z => z.elim (fun z => dT q y (.inl z)) fun z => dT3 q (.inl y) (.inr z)
          · exact fun q y z => dT3 q (.inr y) (.inr z)
        | true =>
          rw [if_pos rfl] at q3 ⊢
          have q3' : Post c W (relE c) σ H3 F3 (Uni (Uni t (B ad)) (Uni a3 e3)) ((f ρ2).bindB fun v ρ3 => (compL own b tst f (xs.drop (i + 1)) (wipeE own ρ3)).bindB fun ws ρ2 => .ok (.lst true (vs ++ v :: ws)) (gv ρ2)) Q := by
            cases hq : f ρ2 with
            | ok v ρ3 =>
              simp only [hq, Res.bindB_ok] at q3 ⊢
              cases hq2 : compL own b tst f (xs.drop (i + 1)) (wipeE own ρ3) with
              | ok ws ρ4 => simp only [hq2, Res.bindB_ok] at q3 ⊢; exact q3
              | er _ _ => simp only [hq2] at q3; exact q3.elim
              | bad => simp only [hq2] at q3; exact q3.elim
            | er _ _ => simp only [hq] at q3; exact q3.elim
            | bad => simp only [hq] at q3; exact q3.elim
          have dT3e : Dis (Uni t (B ad)) e3 := fun q y z => dT3 q y (.inr z)
          refine tG.nextB (rel := relE c) (t := Uni t (B ad)) (b := e3) g3 Sub.l (Sub.r.trans Sub.r) dT3e r3 q3' fun v yv ρ3 H4 F4 a4 e4 g4 dT4 d4 rv r4 s4 q4 => ?_
          have ge3 : Good H3 F3 e3 := g3.sub (Sub.r.trans Sub.r)
          have p4 : P H4 F4 := S.step _ _ _ _ _ _ p3 ge3 s4 (fun q y z => dT3e q (.inl y) z)
          have ra4 := ra3.step ge3 s4 (fun q y z => dT3e q (.inr (.inl y)) z)
          have hacc4 := s4.keep D _ hacc3 (fun z => dT3e D (.inr (.inr rfl)) z)
          have lacc : acc.length < sizeLine := by
            rw [ra4.len]
            exact Nat.lt_of_le_of_lt lv (Nat.lt_of_lt_of_le hlt S.len)
          refine ⟨acc, hacc4, lacc, ?_⟩
          -- the new item
          have inD : Uni (Uni t (B ad)) (Uni a4 e4) D := .inl (.inr (.inr rfl))
          have sp : Stp H4 F4 (fun q => q = D) (upd H4 D (.lst (acc ++ [yv]))) F4 (fun q => q = D) := Stp.put rfl
          have gD : Good H4 F4 (fun q => q = D) := g4.sub fun q z => by rw [z]; exact inD
          have tD : ∀ {a : AS}, ¬ a D → Dis a (fun q => q = D) := fun n q y z => n (by rw [← z]; exact y)
          have ntD : ¬ t D := fun z => dT D z (.inl (.inr rfl))
          have na4 : ¬ a4 D := fun z => dT4 D (.inr (.inr rfl)) (.inl z)
          have ne4 : ¬ e4 D := fun z => dT4 D (.inr (.inr rfl)) (.inr z)
          have wr := (r4.step gD sp (tD ne4)).wipes own
          rw [(wipe_keep k2).trans (wipe_wipe _ _)] at wr
          have rn : Rs c (upd H4 D (.lst (acc ++ [yv]))) F4 (vs ++ [v]) (acc ++ [yv]) (Uni ad a4) := Rs.append (ra4.step gD sp (tD nD)) (Rs.one (R.step gD sp rv (tD na4))) (fun q y z => dT4 q (.inr (.inl y)) (.inl z))
          have sw : Sub (Uni (Uni t (B (Uni ad a4))) e4) (Uni (Uni t (B ad)) (Uni a4 e4)) := by
            intro q y
            rcases y with (y | (y | y) | y) | y
            · exact .inl (.inl y)
            · exact .inl (.inr (.inl y))
            · exact .inr (.inl y)
            · exact .inl (.inr (.inr y))
            · exact .inr (.inr y)
          have g5 := g4.put (o := .lst (acc ++ [yv])) inD trivial
          have q5 := Post.sub (Post.base q4 (Stp.put (o := .lst (acc ++ [yv])) inD)) sw
          refine ⟨wipeE own ρ3, F4, e4, Uni ad a4, vs ++ [v], acc ++ [yv], S.step _ _ _ _ _ _ p4 gD sp (tD ntD), upd_same, rn, ?_, g5.sub sw, ?_, ?_, fun z => z.elim nD na4, wr, fun i h => wipeE_none own _ i h, ?_⟩
          · rw [List.length_append, List.length_singleton]; exact Nat.succ_le_succ lv
          · intro q y z
            rcases z with ((z | z) | z) | z
            · exact dT q y (.inl (.inl z))
            · exact dT4 q (.inl y) (.inl z)
            · exact dT q y (.inl (.inr z))
            · exact dT4 q (.inl y) (.inr z)
          · intro q y z
            rcases y with (y | y) | y
            · exact dT4 q (.inr (.inl y)) (.inr z)
            · exact d4 q y z
            · exact dT4 q (.inr (.inr y)) (.inr z)
          · have ea : ∀ ws, vs ++ [v] ++ ws = vs ++ v :: ws := fun ws => by rw [List.append_assoc]; rfl
            simp only [ea]
            exact q5
    · have ei : i = xs.length := by omega
      subst ei
      rw [List.drop_length, compL, Res.bindB_ok, List.append_nil] at q
      refine .inl ⟨S.stop H F p, ?_⟩
      have gte : Good H F (Uni t e) := g.sub (Sub.uni (Sub.l.trans Sub.l) Sub.r)
      have dte : Dis t e := fun q y z => dT q y (.inr z)
      have ref := hgv p gte dte re ow
      have lb : vs.length ≤ big := Nat.le_trans lv S.len
      refine q (.ref D) H F (B ad) (Uni t e) (Stp.refl.drop ?_) (g.sub ?_) ?_ ⟨D, acc, ad, rfl, lb, hacc, .inr rfl, nD, Sub.l, ra⟩ ref
      · exact Sub.uni (Sub.r.trans Sub.l) (Sub.uni (Sub.l.trans Sub.l) Sub.r)
      · exact Sub.uni (Sub.r.trans Sub.l) (Sub.uni (Sub.l.trans Sub.l) Sub.r)
      · exact fun q y z => z.elim (fun z => dT q z (.inl y)) (dB q y)
end
section
variable {X : Cx} {c : RC} {W : WX} {tg it elt : Expr} {ifs : List Expr} {scope : Scope} {own : List (Str × Nat)} {pos : Pos} {w : IF} {b : BF} {tst : TF} {f : EF} {i : Nat}
structure Blk (X : Cx) (c : RC) (tg elt : Expr) (ifs : List Expr) (scope : Scope) (own : List (Str × Nat)) (b : BF) (tst : TF) (f : EF) : Prop where
  ok : BlkOk X.N X.env.scope scope own
  g : ∀ (s : Shared) (H : Hp) (C : Addr) (cl : List (Str × Addr)) (fp : List Addr), SG c (fxOwn (own.map (·.2))) (X.blk s H scope (compEnvC scope cl C X.env) fp) tg b
  t : ∀ (s : Shared) (H : Hp) (C : Addr) (cl : List (Str × Addr)) (fp : List Addr), PTs (X.blk s H scope (compEnvC scope cl C X.env) fp) ifs (tTs c W0 tst)
  e : ∀ (s : Shared) (H : Hp) (C : Addr) (cl : List (Str × Addr)) (fp : List Addr), SE (X.blk s H scope (compEnvC scope cl C X.env) fp) c W0 elt f
theorem PTs.weak {t t' : TT} (h : PTs X ifs t) (k : ∀ σ H Q, t' σ H Q → t σ H Q) : PTs X ifs t' := ⟨fun pins s σ H Q I q => h.run pins s σ H Q I (k σ H Q q)⟩
theorem pts_yes : PTs X [] (tTs c W Tr.tYes) := PTs.weak pts_nil fun σ H Q ⟨ρ, F, A, g, e, p⟩ => p.now g (Sub.refl _) rfl e
theorem look_emp {σ : L2.St} {H : Hp} {F a : AS} {ρ : Env} (e : RE c H F ρ σ a) : ∀ i v, slot ρ i = some v → fro v = true → ∃ x, σ[i]? = some (some x) ∧ R c H F v x Emp := fun i v h f => by
  obtain ⟨x, b, h1, _, h3⟩ := e.look h
  exact ⟨x, h1, R.emp h3 f⟩
theorem comp_q {k : Nat} {elt tg it : Expr} {σ : L2.St} {H : Hp} {Q : VK} (q : tEx c W (eComp (own.map (·.2)) w b tst f) σ H Q) :
    tLc (tG c W (relS c) w) (tGt c (fxOwn (own.map (·.2))) b) (tTs c W0 tst) (tEx c W0 f) (own.map (·.2)) σ H Q := by
  refine tG.bind (rel := relS c) q fun xs J ρ1 H1 F1 a e g d r re p D hD => ?_
  obtain ⟨P, hp, S⟩ := r
  have ge : Good H1 F1 (Uni Emp e) := g.sub (Sub.uni Sub.emp Sub.r)
  have rw' := re.wipes (own.map (·.2))
  refine comp_ok (c := c) (W := W) (σ := σ) (P := fun H F => P H F ∧ ∀ i v, slot ρ1 i = some v → fro v = true → ∃ x, σ[i]? = some (some x) ∧ R c H F v x Emp) (t := Emp) (gv := fun ρ2 => restore (own.map (·.2)) ρ1 ρ2)
    ⟨S.len, fun i H F h => S.go i H F h.1, fun H F h => S.stop H F h.1, fun i H F x H' z h => S.yld i H F x H' z h.1, fun H F A H' F' A' h g s d => ⟨S.step _ _ _ _ _ _ h.1 g s d, fun i v e f => ?_⟩⟩ ?_ ⟨hp, look_emp re⟩ ge Dis.empl rw' (fun i h => wipeE_none _ _ i h) (Post.sub p (Sub.uni Sub.emp Sub.r)) hD
  · obtain ⟨x, h1, h2⟩ := h.2 i v e f
    exact ⟨x, h1, R.step g s h2 Dis.empl⟩
  · intro H F e ρ hp g dd re ow
    have es : wipeE (own.map (·.2)) ρ = ρ := by
      have go : ∀ l : List Nat, (∀ i ∈ l, slot ρ i = none) → wipeE l ρ = ρ := by
        intro l
        induction l with
        | nil => intro _; rfl
        | cons j js ih =>
          intro hl
          rw [wipeE, ih fun i h => hl i (List.mem_cons_of_mem _ h)]
          refine List.ext_getElem? fun k => ?_
          by_cases ek : j = k
          · subst ek
            by_cases l : j < ρ.length
            · rw [List.getElem?_set_self l]
              have := hl j List.mem_cons_self
              unfold slot at this
              rw [List.getElem?_eq_getElem l] at this ⊢
              simp only [Option.join_some] at this
              rw [this]
            · rw [List.getElem?_eq_none (by rw [List.length_set]; omega), List.getElem?_eq_none (by omega)]
          · rw [List.getElem?_set_ne ek]
      exact go _ ow
    rw [← es] at re
    have re2 := RE.unwipe _ re
    rw [es] at re2
    exact (RE.restore hp.2 re2).mono Sub.r
theorem se_comp (hc : X.calm = true) (hN : X.N.Nodup) (hi : SI X c W tg it w) (B : Blk X c tg elt ifs scope own b tst f) (hs : ∀ x, foldedSetIterable it X.env x = pure x := by intro _; rfl) :
    SE X c W (.ListComp elt [⟨tg, it, ifs, 0⟩] scope pos) (eComp (own.map (·.2)) w b tst f) :=
  PE.weak (pe_lc hc hN hi B.ok B.g B.t B.e hs) fun σ H Q q => comp_q (k := 0) (elt := elt) (tg := tg) (it := it) q
end
end Tr
namespace Tr
open PySem PySem.Spec L2
end Tr
set_option autoImplicit false
namespace Tr
def sApp (i : Nat) (f : EF) : SF := fun ρ => match slot ρ i with
  | some (.lst _ _) => sOf (f ρ) fun v ρ1 => match slot ρ1 i with
    | some (.lst true xs) => if xs.length < big then .nx (ρ1.set i (some (.lst true (xs ++ [v])))) else .bad
    | _ => .bad
  | _ => .bad
def sExt (i : Nat) (f : EF) : SF := fun ρ => match slot ρ i with
  | some (.lst _ _) => sOf (f ρ) fun v ρ1 => match slot ρ1 i, v with
    | some (.lst true xs), .lst true ys => if xs.length + ys.length ≤ big then .nx (ρ1.set i (some (.lst true (xs ++ ys)))) else .bad
    | _, _ => .bad
  | _ => .bad
def sPutL (i : Nat) (g : EF) (f : EF) : SF := fun ρ => sOf (f ρ) fun v ρ1 => match slot ρ1 i with
  | some _ => sOf (g ρ1) fun k ρ2 => match slot ρ2 i, k with
    | some (.lst true xs), .int k => match ixN xs.length k with
      | some j => .nx (ρ2.set i (some (.lst true (xs.set j v))))
      | none => .bad
    | _, _ => .bad
  | none => .bad
def sPar2 (i j : Nat) (g : AF) : SF := fun ρ => sOf (g ρ) fun vs ρ1 => match vs with
  | [v, w] => .nx ((ρ1.set i (some v)).set j (some w))
  | _ => .bad
def sPar3 (i j k : Nat) (g : AF) : SF := fun ρ => sOf (g ρ) fun vs ρ1 => match vs with
  | [v, w, z] => .nx (((ρ1.set i (some v)).set j (some w)).set k (some z))
  | _ => .bad
end Tr
namespace Tr
open PySem PySem.Spec L2
section
variable {c : RC} {H H' : Hp} {F A : AS}
theorem R.own {xs : List PV} {x : V} {a : AS} (r : R c H F (.lst true xs) x a) : ∃ p vs a', x = .ref p ∧ xs.length ≤ big ∧ H p = some (.lst vs) ∧ a p ∧ ¬ a' p ∧ Sub a' a ∧ Rs c H F xs vs a' := r
end
section
variable {X : Cx} {c : RC} {W : WX} {fx : Nat → Bool} {i : Nat} {x : Str} {e : Expr} {f : EF} {pos p apos : Pos}
theorem ss_par2 {i j : Nat} {x y : Str} {a b : Expr} {g : AF} {px py pt : Pos} {kt k2 pt2} (hc : X.calm = true) (hN : X.N.Nodup) (hi : X.N[i]? = some x) (hj : X.N[j]? = some y) (hij : i ≠ j) (fi : fx i = false) (fj : fx j = false)
    (hx : X.env.scope.names.lookup x = some .local) (hy : X.env.scope.names.lookup y = some .local) (ha : SA X c W [a, b] g)
    (hw : swappedStores [.Tuple [.Name x px, .Name y py] kt pt] (.Tuple [a, b] k2 pt2) X.env = pure (some [x, y]))
    (hs : swapsWithSole [.Tuple [.Name x px, .Name y py] kt pt] (.Tuple [a, b] k2 pt2) pos.line X.env = pure false := by rfl) :
    SS c W fx X (.Assign [.Tuple [.Name x px, .Name y py] kt pt] (.Tuple [a, b] k2 pt2) pos) (sPar2 i j g) := by
  refine PS.weak (ps_par hc hN hi hj hij hx hy ha hw hs) fun D σ H q => ?_
  refine tS.expr (rel := relL c) q fun vs xs ρ1 H1 F1 a e g1 d r re1 p1 => ?_
  match vs, r with
  | [v, w], ⟨v', vs', b1, d1, e1, s1, s2, k, r1, w', vs2, b2, d2, e2, t1, t2, kk, r2, r3⟩ =>
    subst e1 e2
    cases (show vs2 = [] from r3)
    refine ⟨v', w', rfl, ?_⟩
    have e3 := re1.storeAny (i := i) r1 (d.mono s1 (Sub.refl _))
    have e4 := e3.storeAny (i := j) r2 (fun q y z => z.elim (fun z => k q z (t1 q y)) (d q (s2 q (t1 q y))))
    exact p1.nxt g1 (Sub.uni (t1.trans (s2.trans Sub.l)) (Sub.uni (s1.trans Sub.l) Sub.r)) e4 ((Keep.set fi).trans (Keep.set fj))
  | [], _ => exact p1.elim
  | [_], _ => exact p1.elim
  | _ :: _ :: _ :: _, _ => exact p1.elim
end
end Tr
namespace Tr
open PySem PySem.Spec L2
section
variable {X : Cx} {c : RC} {W : WX} {k : Nat} {pos : Pos} {a b d : Expr} {oa ob od : Opd}
theorem w_add (D : Ds X c) (ha : SO X c W a oa) (hb : SO X c W b ob) : SE X c W (.BinOp a .Add b pos) (eP2 bAdd oa ob) := se_bin op_addAll (by rw [D.K]; exact k_add) ha hb
theorem w_sub (D : Ds X c) (ha : SO X c W a oa) (hb : SO X c W b ob) : SE X c W (.BinOp a .Sub b pos) (eP2 bSub oa ob) := se_bin op_sub k_sub ha hb
theorem w_mul (D : Ds X c) (ha : SO X c W a oa) (hb : SO X c W b ob) : SE X c W (.BinOp a .Mult b pos) (eP2 bMul oa ob) := se_bin op_mulAll k_mul ha hb
theorem w_div (D : Ds X c) (ha : SO X c W a oa) (hb : SO X c W b ob) : SE X c W (.BinOp a .FloorDiv b pos) (eP2 bDiv oa ob) := se_bin op_fdivW k_div ha hb
theorem w_mod (D : Ds X c) (ha : SO X c W a oa) (hb : SO X c W b ob) : SE X c W (.BinOp a .Mod b pos) (eP2 bMod oa ob) := se_bin op_mod k_mod ha hb
theorem w_pow (D : Ds X c) (ha : SO X c W a oa) (hb : SO X c W b ob) : SE X c W (.BinOp a .Pow b pos) (eP2 bPow oa ob) := se_bin op_powW k_pow ha hb
theorem w_neg (D : Ds X c) (ha : SO X c W a oa) : SE X c W (.UnaryOp .USub a pos) (eP1 uNeg oa) := se_un un_neg k_neg ha
theorem t_eq (D : Ds X c) (ha : SO X c W a oa) (hb : SO X c W b ob) : ST X c W (.Compare a [.Eq] [b] pos) (tPV2 cEq oa ob) := st_cmp (op_eqD D.un) (by rw [D.K]; exact k_eq) ha hb (nomark _)
theorem t_ne (D : Ds X c) (ha : SO X c W a oa) (hb : SO X c W b ob) : ST X c W (.Compare a [.NotEq] [b] pos) (tPV2 cNe oa ob) := st_cmp (op_neD D.un) (by rw [D.K]; exact k_ne) ha hb (nomark _)
theorem t_lt (D : Ds X c) (ha : SO X c W a oa) (hb : SO X c W b ob) : ST X c W (.Compare a [.Lt] [b] pos) (tPV2 cLt oa ob) := st_cmp op_lt k_lt ha hb (nomark _)
theorem t_gt (D : Ds X c) (ha : SO X c W a oa) (hb : SO X c W b ob) : ST X c W (.Compare a [.Gt] [b] pos) (tPV2 cGt oa ob) := st_cmp op_gt k_gt ha hb (nomark _)
theorem e_eq (D : Ds X c) (ha : SO X c W a oa) (hb : SO X c W b ob) : SE X c W (.Compare a [.Eq] [b] pos) (eT (tPV2 cEq oa ob)) := se_cmp (op_eqD D.un) (by rw [D.K]; exact k_eq) ha hb (nomark _)
theorem t_isN (D : Ds X c) {j pos'} (ha : SO X c W a oa) : ST X c W (.Compare a [.Is] [.Constant .none j pos'] pos) (tPV cIsN oa) := st_isN ha
theorem e_isN (D : Ds X c) {j pos'} (ha : SO X c W a oa) : SE X c W (.Compare a [.Is] [.Constant .none j pos'] pos) (eT (tPV cIsN oa)) := se_isN ha
theorem e_len {p} (D : Ds X c) (hm : X.mg "len" = none) (hg : Gl X "len") (ha : SO X c W a oa) (st : starEach [a] X.env = (false, eval a X.env) :: starEach [] X.env := by rfl) (he : (backTo pos (starEach [] X.env)).any (·.1) = false := by rfl) : SE X c W (.Call (.Name "len" p) [a] [] pos) (eP1 fLen oa) := se_call1 call_lenAll (by rw [D.K]; exact k_len) hg hm (by decide +kernel) ha (by decide) (by decide) st he
theorem e_abs {p} (D : Ds X c) (hm : X.mg "abs" = none) (hg : Gl X "abs") (ha : SO X c W a oa) (st : starEach [a] X.env = (false, eval a X.env) :: starEach [] X.env := by rfl) (he : (backTo pos (starEach [] X.env)).any (·.1) = false := by rfl) : SE X c W (.Call (.Name "abs" p) [a] [] pos) (eP1 fAbs oa) := se_call1 call_abs k_abs hg hm (by decide +kernel) ha (by decide) (by decide) st he
theorem e_int {p} (D : Ds X c) (hm : X.mg "int" = none) (hg : Gl X "int") (ha : SO X c W a oa) (st : starEach [a] X.env = (false, eval a X.env) :: starEach [] X.env := by rfl) (he : (backTo pos (starEach [] X.env)).any (·.1) = false := by rfl) : SE X c W (.Call (.Name "int" p) [a] [] pos) (eP1 fInt oa) := se_ty1 call_int1 k_int hg hm (by decide +kernel) ha (by decide) (by decide) st he
theorem e_max2 {p} (D : Dk X c W k) (hm : X.mg "max" = none) (hg : Gl X "max") (ha : SO X c W a oa) (hb : SO X c W b ob) (st : starEach [a, b] X.env = (false, eval a X.env) :: starEach [b] X.env := by rfl) (st2 : starEach [b] X.env = (false, eval b X.env) :: starEach [] X.env := by rfl) (he : (backTo pos (starEach [b] X.env)).any (·.1) = false := by rfl) : SE X c W (.Call (.Name "max" p) [a, b] [] pos) (eP2 fMax2 oa ob) := se_call2 (call_max2 D.calm) k_max2 hg hm (by decide +kernel) ha hb (by decide) (by decide) st st2 he
theorem e_min2 {p} (D : Dk X c W k) (hm : X.mg "min" = none) (hg : Gl X "min") (ha : SO X c W a oa) (hb : SO X c W b ob) (st : starEach [a, b] X.env = (false, eval a X.env) :: starEach [b] X.env := by rfl) (st2 : starEach [b] X.env = (false, eval b X.env) :: starEach [] X.env := by rfl) (he : (backTo pos (starEach [b] X.env)).any (·.1) = false := by rfl) : SE X c W (.Call (.Name "min" p) [a, b] [] pos) (eP2 fMin2 oa ob) := se_call2 (call_min2 D.calm) k_min2 hg hm (by decide +kernel) ha hb (by decide) (by decide) st st2 he
theorem e_all {p} (D : Dk X c W k) (hm : X.mg "all" = none) (hg : Gl X "all") (ha : SO X c W a oa) (st : starEach [a] X.env = (false, eval a X.env) :: starEach [] X.env := by rfl) (he : (backTo pos (starEach [] X.env)).any (·.1) = false := by rfl) : SE X c W (.Call (.Name "all" p) [a] [] pos) (eP1 fAll oa) := se_call1 (cr_all D.calm) (by rw [D.K]; exact k_all) hg hm (by decide +kernel) ha (by decide) (by decide) st he
theorem e_ix (D : Ds X c) (ha : SO X c W a oa) (hb : SO X c W b ob) (hs : PlainIx b) : SE X c W (.Subscript a b pos) (eP2 ix oa ob) := se_ix D.K ha hb hs
theorem e_sl (D : Ds X c) {lo hi : Option Expr} {p2 : Pos} {fl fh : Option EF} (ha : SO X c W a oa) (hl : SB X c W lo fl) (hh : SB X c W hi fh) : SE X c W (.Subscript a (.Slice lo hi none p2) pos) (eSl oa fl fh) := se_sl D.K ha hl hh
theorem e_isa (D : Ds X c) {p p2 : Pos} {xT : Str} (T : Ty) (hm : X.mg "isinstance" = none) (hg : Gl X "isinstance") (hmT : X.mg xT = none) (hgT : Gl X xT) (hb : bootBuiltins xT = some (.type (tyN T))) (hn : xT ≠ "__name__") (hd : (xT == ("__debug__" : Str)) = false) (ha : SO X c W a oa)
    (st : starEach [a, .Name xT p2] X.env = (false, eval a X.env) :: starEach [.Name xT p2] X.env := by rfl) (st2 : starEach [.Name xT p2] X.env = (false, eval (.Name xT p2) X.env) :: starEach [] X.env := by rfl) (he : (backTo pos (starEach [.Name xT p2] X.env)).any (·.1) = false := by rfl) :
    SE X c W (.Call (.Name "isinstance" p) [a, .Name xT p2] [] pos) (eT (tPV (isA T) oa)) := se_isa D.K ha (pe_bltn hgT hmT hb rfl hn hd) hg hm st st2 he
def Def (P : Program) (w : World) (K : PySem.W.Frag) (mg : Str → Option Value) (base : Heap) (c : RC) (k : Nat) (x : Str) (st : Stmt) (ps : List Str) (sem : FF) : Prop :=
  ∃ f fd, mg x = some (.ref f) ∧ Fun K x x st f fd ∧ Binds K fd ps [] ∧ FnG P w K mg base (L2.CX P w) k f fd ps (spF c ps.length sem)
variable {j : Nat} {x : Str} {p : Pos} {e : Expr} {es : List Expr} {os : List Opd} {sem : FF} {st : Stmt} {ps : List Str}
theorem e_call (D : Dk X c W j) (G : Def X.prog X.w X.K X.mg X.base c k x st ps sem) (hr : k ≤ j) (hg : Gl X x)
    (ha : SOs X c W (e :: es) os) (hn : os.length = ps.length) (hdb : (x == ("__debug__" : Str)) = false := by decide) (he : starEach (e :: es) X.env = (false, eval e X.env) :: starEach es X.env := by rfl) (hpl : (backTo pos (starEach es X.env)).any (·.1) = false := by rfl) :
    SE X c W (.Call (.Name x p) (e :: es) [] pos) (eCall sem os []) := by
  obtain ⟨f, fd, h1, h2, h3, h4⟩ := G
  exact se_call D h4 hr hg h1 h2.kp h3 .nil (fun _ _ => rfl) ha (by rw [hn]; rfl) hdb he hpl
end
end Tr
namespace Tr
open PySem PySem.Spec L2
section
variable {c : RC} {W : WX}
theorem tO.imp {o : Opd} {σ : L2.St} {H : Hp} {Q Q' : VK} (h : tO c W o σ H Q) (k : ∀ x H, Q x H → Q' x H) : tO c W o σ H Q' := by
  cases o with
  | nm i => obtain ⟨v, e, q⟩ := h; exact ⟨v, e, k _ _ q⟩
  | ev f => exact tG.imp (rel := relE c) h k
theorem tOs.imp : ∀ {os : List Opd} {σ : L2.St} {H : Hp} {K K' : List V → Hp → Prop}, tOs c W os σ H K → (∀ x H, K x H → K' x H) → tOs c W os σ H K'
  | [], _, _, _, _, h, k => k _ _ h
  | o :: os, _, _, _, _, h, k => tO.imp (o := o) h fun _ _ q => tOs.imp q fun _ _ q => k _ _ q
theorem tOs.len : ∀ {os : List Opd} {σ : L2.St} {H : Hp} {K : List V → Hp → Prop}, tOs c W os σ H K → tOs c W os σ H fun xs H1 => xs.length = os.length ∧ K xs H1
  | [], σ, H, K, h => ⟨rfl, h⟩
  | o :: os, σ, H, K, h => tO.imp (o := o) h fun x H1 q => (tOs.len q).imp fun xs H2 q2 => ⟨by rw [List.length_cons, List.length_cons, q2.1], q2.2⟩
end
end Tr
set_option autoImplicit false
namespace Tr
abbrev Hd := List Nat × Option Nat × SF
def suiteEnd (o : Option Nat) (r : SR) : SR := match r with
  | .er _ _ => .bad
  | r => match o with
    | none => r
    | some i => after r fun ρ => ρ.set i none
def runHd : List Hd → PExc → Env → SR
  | [], e, ρ => .er e ρ
  | (ks, o, s) :: hs, e, ρ => if ks.contains e.cls then suiteEnd o (s (match o with | none => ρ | some i => ρ.set i (some (.exc e.cls e.vals)))) else runHd hs e ρ
def sTry (n : Nat) (body : SF) (hs : List Hd) : SF := fun ρ => match body ρ with
  | .er e ρ1 => if e.cls < n then runHd hs e ρ1 else .bad
  | r => r
def sRaise0 (k : Nat) (g : AF) : SF := fun ρ => sOf (g ρ) fun _ ρ1 => .er ⟨k, []⟩ ρ1
def sRaise (k : Nat) (g : AF) : SF := fun ρ => sOf (g ρ) fun vs ρ1 => .er ⟨k, (frzs vs).reverse⟩ ρ1
def xfld (k j : Nat) : PV → Option PV
  | .exc k' vs => if k' = k then vs[j]? else none
  | _ => none
def isaX (n : Nat) (ks : List Nat) : PV → Option Bool
  | .exc k _ => if k < n then some (ks.contains k) else none
  | _ => none
end Tr
namespace Tr
open PySem PySem.Spec PyProof.Rows L2
section
variable {X : Cx} {pins : List (Addr × Obj)} {σ : L2.St} {H : Hp} {s : Shared} {a : Addr}
theorem Inv.track (I : L2.Inv X pins σ H s) {ph : Heap → Prop} (h0 : X.s_0.heap.get? a = none) (na : H a = none) (nl : a ≠ X.env.locals) (nc : ∀ x cc, X.env.cells.lookup x = some cc → cc ≠ a) (np : ∀ p ∈ X.pn ++ pins, p.1 ≠ a)
    (ok : ObjOk X.prog X.w (upd H a (.ext ph)) s.heap a (.ext ph)) : L2.Inv X pins σ (upd H a (.ext ph)) s := by
  have nb : ∀ b o, X.s_0.heap.get? b = some o → b ≠ a := fun b o e z => by rw [z, h0] at e; cases e
  have nt : ∀ b u, H b = some u → b ≠ a := fun b u e z => by rw [z, na] at e; cases e
  have sw : ∀ b u, H b = some u → upd H a (.ext ph) b = some u := fun b u e => by rw [upd_ne (nt b u e)]; exact e
  refine ⟨I.ok, I.os, I.bare, ?_, I.loc, I.cell, ?_, ?_, ?_, ?_, I.len⟩
  · refine ⟨I.base.keep, I.base.slot, ?_, I.base.there, ?_, ?_, ?_⟩
    · intro b o e n x
      rw [upd_ne (nb b o e)]
      exact I.base.free b o e n x
    · exact fun b xs e => sw _ _ (I.base.tups b xs e)
    · exact fun b o u e => sw _ _ (I.base.frzs b o u e)
    · intro b ps e
      obtain ⟨m, z⟩ := I.base.tbls b ps e
      exact ⟨m, sw _ _ z⟩
  · rw [upd_ne (Ne.symm nl)]; exact I.free
  · intro x cc e
    rw [upd_ne (nc x cc e)]; exact I.freeC x cc e
  · intro p hp
    obtain ⟨h1, h2, h3⟩ := I.pin p hp
    exact ⟨h1, by rw [upd_ne (np p hp)]; exact h2, h3⟩
  · intro b u e
    by_cases hb : b = a
    · subst hb
      rw [upd_same] at e; cases e
      exact ok
    · rw [upd_ne hb] at e
      exact (I.hok b u e).stay (fun _ _ _ z => z) (fun q z => sw _ _ z) fun q xs z => sw _ _ z
end
inductive HdOk (c : RC) (fx : Nat → Bool) (n : Nat) (X : Cx) : List ExceptHandler → List Hd → Prop
  | nil : HdOk c fx n X [] []
  | cons {x : Str} {np pos : Pos} {b : Stmt} {bs : List Stmt} {hds : List ExceptHandler} {l : List Hd} {j : Nat} {ks : List Nat} {s : SF} (hg : Names X x (.ref (c.cA j)))
      (ht : ∀ i, i < n → PySem.W.exmOne X.K (.ref (c.cA i)) (.ref (c.cA j)) = some (ks.contains i)) (hsu : ∀ a pn, SSs c W0 fx (X.suite a pn) (b :: bs) s) (r : HdOk c fx n X hds l) :
      HdOk c fx n X (.ExceptHandler (some (.Name x np)) none (b :: bs) pos :: hds) ((ks, none, s) :: l)
  | consAs {x nn : Str} {np pos : Pos} {b : Stmt} {bs : List Stmt} {hds : List ExceptHandler} {l : List Hd} {i j : Nat} {ks : List Nat} {s : SF} (hi : X.N[i]? = some nn) (hl : X.env.kindOf nn = some .local) (hf : fx i = false) (hg : Names X x (.ref (c.cA j)))
      (ht : ∀ i, i < n → PySem.W.exmOne X.K (.ref (c.cA i)) (.ref (c.cA j)) = some (ks.contains i)) (hsu : ∀ a pn, SSs c W0 fx (X.suite a pn) (b :: bs) s) (r : HdOk c fx n X hds l) :
      HdOk c fx n X (.ExceptHandler (some (.Name x np)) (some nn) (b :: bs) pos :: hds) ((ks, some i, s) :: l)
def wTry (c : RC) (W : WX) (fx : Nat → Bool) (n : Nat) (l : List Hd) (σ0 : L2.St) (H0 : Hp) (F0 A0 : AS) (D : Ends) : WX := fun cls d σ H =>
  ∃ e ρ F A, Stp H0 F0 A0 H F A ∧ Keep fx σ0 σ ∧ Good H F A ∧ RX c H F e cls d ∧ RE c H F ρ σ A ∧ e.cls < n ∧ PostS c W fx σ0 H0 F0 A0 (runHd l e ρ) D
section
variable {X : Cx} {c : RC} {W : WX} {fx : Nat → Bool} {k n : Nat} {body : List Stmt} {h0 : ExceptHandler} {hds : List ExceptHandler} {l : List Hd} {pos : Pos} {s : SF}
theorem suite_rx {H : Hp} {F A : AS} {ρ : Env} {σ : L2.St} {e : PExc} {cls : Value} {d : Option Addr} {a : Addr} (g : Good H F A) (rx : RX c H F e cls d) (re : RE c H F ρ σ A) (na : H a = none) :
    Stp H F A (upd H a (exv a (c.cA e.cls) d)) (Uni F (fun q => q = a)) A ∧ Good (upd H a (exv a (c.cA e.cls) d)) (Uni F (fun q => q = a)) A ∧ RE c (upd H a (exv a (c.cA e.cls) d)) (Uni F (fun q => q = a)) ρ σ A ∧ R c (upd H a (exv a (c.cA e.cls) d)) (Uni F (fun q => q = a)) (.exc e.cls e.vals) (.ref a) Emp := by
  have nt : ∀ b u, H b = some u → b ≠ a := fun b u e z => by rw [z, na] at e; cases e
  have st : ∀ B, Stp H F B (upd H a (exv a (c.cA e.cls) d)) (Uni F (fun q => q = a)) B := fun B => {
    keep := fun p o h _ => by rw [upd_ne (nt p o h)]; exact h
    live := fun p h => by
      by_cases z : p = a
      · rw [z]; exact na
      · rw [upd_ne z] at h; exact h
    mono := fun p h => .inl h
    newF := fun p h => h.elim .inl fun z => .inr (.inl (by rw [z]; exact na))
    newA := fun p h => .inr h }
  have gg : Good (upd H a (exv a (c.cA e.cls) d)) (Uni F (fun q => q = a)) A := ⟨fun p h => by
      obtain ⟨h1, o, h2, h3⟩ := g.own p h
      exact ⟨fun z => z.elim h1 (nt p o h2), o, by rw [upd_ne (nt p o h2)]; exact h2, h3⟩, fun p h => by
      rcases h with h | h
      · obtain ⟨o, h2⟩ := g.fro p h
        exact ⟨o, by rw [upd_ne (nt p o h2)]; exact h2⟩
      · exact ⟨_, by rw [h]; exact upd_same⟩⟩
  have ge : Good H F Emp := g.sub Sub.emp
  have re2 : RE c (upd H a (exv a (c.cA e.cls) d)) (Uni F (fun q => q = a)) ρ σ A := RE.step ge (st Emp) re Dis.empr
  refine ⟨st A, gg, re2, ?_⟩
  obtain ⟨e1, e2⟩ := rx
  by_cases hv : e.vals = []
  · rw [if_pos hv] at e2
    exact ⟨a, d, [], rfl, ⟨upd_same, .inr rfl⟩, .inl ⟨hv, e2⟩, by rw [hv]; exact rfl⟩
  · rw [if_neg hv] at e2
    obtain ⟨dd, vs, h1, h2, h3, h4⟩ := e2
    refine ⟨a, d, vs, rfl, ⟨upd_same, .inr rfl⟩, .inr ⟨dd, h1, h2, by rw [upd_ne (nt _ _ h3)]; exact h3⟩, ?_⟩
    exact Rs.step ge (st Emp) h4 Dis.empl
theorem exv_ok {P : Program} {w : World} {H : Hp} {h : Heap} {a C : Addr} {d : Option Addr} {o : Obj} {vs : Array Value} (e : h.get? a = some o) (hz : Zc (.ref C) d o) (hd : o.data = .fields vs) : ObjOk P w H h a (exv a C d) :=
  ⟨⟨o, vs, e, hz.1, hz.2, hd⟩, ⟨o, e⟩, fun _ _ ⟨o', vs', e', x1, x2, x3⟩ k => ⟨o', vs', k _ e', x1, x2, x3⟩⟩
theorem Inv.suite0 {pins : List (Addr × Obj)} {σ : L2.St} {H : Hp} {s : Shared} (I : L2.Inv X pins σ H s) (a : Addr) : L2.Inv (X.suite a (X.pn ++ pins)) [] σ H s :=
  ⟨I.ok.suite _ _, I.os, I.bare, I.base, I.loc, I.cell, I.free, I.freeC, fun p hp => by rw [List.append_nil] at hp; exact I.pin p hp, I.hok, I.len⟩
theorem Inv.unsuite0 {pins pn' : List (Addr × Obj)} {σ : L2.St} {H : Hp} {s : Shared} {a : Addr} (I : L2.Inv (X.suite a (X.pn ++ pins)) pn' σ H s) (ok : X.Ok) : L2.Inv X pins σ H s :=
  ⟨ok, I.os, I.bare, I.base, I.loc, I.cell, I.free, I.freeC, fun p hp => I.pin p (List.mem_append_left _ hp), I.hok, I.len⟩
theorem suite_none {σ σ1 : L2.St} {H H1 : Hp} {F A F1 A1 : AS} {r : SR} {D : Ends} (p : PostS c W fx σ H F A (suiteEnd none r) D) (st : Stp H F A H1 F1 A1) (kp : Keep fx σ σ1) : PostS c W0 fx σ1 H1 F1 A1 r D := by
  cases r with
  | er e ρ => exact (show False from p).elim
  | nx ρ => exact PostS.base (W := W0) (c := c) (fx := fx) (r := .nx ρ) p st kp
  | bk ρ => exact PostS.base (W := W0) (c := c) (fx := fx) (r := .bk ρ) p st kp
  | ct ρ => exact PostS.base (W := W0) (c := c) (fx := fx) (r := .ct ρ) p st kp
  | rt v ρ => exact PostS.base (W := W0) (c := c) (fx := fx) (r := .rt v ρ) p st kp
  | bad => exact p
def goneD (i : Nat) (D : Ends) : Ends := { nx := fun σ H => D.nx (σ.set i none) H, rt := D.rt, bk := fun σ H => D.bk (σ.set i none) H, ct := fun σ H => D.ct (σ.set i none) H }
theorem RE.gone {H : Hp} {F a : AS} {ρ : Env} {σ : L2.St} (i : Nat) (h : RE c H F ρ σ a) : RE c H F (ρ.set i none) (σ.set i none) a := RE.wipeσ i (RE.wipe i h)
theorem suite_some {i : Nat} {σ σ1 : L2.St} {H H1 : Hp} {F A F1 A1 : AS} {r : SR} {D : Ends} (hf : fx i = false) (p : PostS c W fx σ H F A (suiteEnd (some i) r) D) (st : Stp H F A H1 F1 A1) (kp : Keep fx σ σ1) : PostS c W0 fx σ1 H1 F1 A1 r (goneD i D) := by
  cases r with
  | er e ρ => exact (show False from p).elim
  | nx ρ => exact fun σ2 H2 F2 b t g e k => p _ _ _ _ (st.trans t) g (RE.gone i e) ((kp.trans k).trans (Keep.set hf))
  | bk ρ => exact fun σ2 H2 F2 b t g e k => p _ _ _ _ (st.trans t) g (RE.gone i e) ((kp.trans k).trans (Keep.set hf))
  | ct ρ => exact fun σ2 H2 F2 b t g e k => p _ _ _ _ (st.trans t) g (RE.gone i e) ((kp.trans k).trans (Keep.set hf))
  | rt v ρ => exact fun x σ2 H2 F2 a b t g d r e k => p x _ _ _ a b (st.trans t) g d r (RE.gone i e) ((kp.trans k).trans (Keep.set hf))
  | bad => exact p
theorem ss_try (D : Dk X c W k) (hb : ∀ W' pn xe, Dk (X.tr pn xe) c W' k → SSs c W' fx (X.tr pn xe) body s) (hh : HdOk c fx n X (h0 :: hds) l)
    (hs : X.stack = X.env :: X.outer := by rfl) (hf : X.env.frame = some X.env.locals := by rfl) (hx : X.ex = [] := by rfl) : SS c W fx X (.Try body (h0 :: hds) [] [] pos) (sTry n s l) := by
  refine ⟨fun pins s0 σ H En I q => ?_⟩
  obtain ⟨ρ, F, A, g, e, p⟩ := q
  have ok := I.ok
  have fr0 : X.A.frames = some (X.env :: X.outer) := by rw [ok.frames, hs]
  refine wpAny_Try_except ?_
  have run := (hb (wTry c W fx n l σ H F A En) (X.pn ++ pins) (fun u s₁ => wpAny (model X.prog X.w) X.A (noteFrame u X.env) (fun _ s₂ => wpAny (model X.prog X.w) X.A (setFlight u none)
      (fun _ s₃ => wpAny (model X.prog X.w) X.A (handleBy u X.env (h0 :: hds)) (SP X pins En) X.xe s₃) X.xe s₂) X.xe s₁) ⟨D.K, D.hr, D.calm, D.nd, ?tk, PassesOwn.looking, D.gd⟩).run [] s0 σ H En (I.toTry _) ⟨ρ, F, A, g, e, ?body⟩
  case body =>
    unfold sTry at p
    cases r : s ρ with
    | er x ρ1 =>
      rw [r] at p
      simp only at p
      by_cases hn : x.cls < n
      · rw [if_pos hn] at p
        exact fun cls d σ1 H1 F1 b t g1 rx e1 kp => ⟨x, ρ1, F1, b, t, kp, g1, rx, e1, hn, p⟩
      · rw [if_neg hn] at p
        exact (show False from p).elim
    | nx ρ1 => rw [r] at p; exact p
    | bk ρ1 => rw [r] at p; exact p
    | ct ρ1 => rw [r] at p; exact p
    | rt v ρ1 => rw [r] at p; exact p
    | bad => rw [r] at p; exact p
  case tk =>
    rintro u s' ⟨a, B, sI, pins', σ1, H1, cls, d, rfl, J', nb, up, sky, na, os, ag, w⟩
    have J : L2.Inv X pins σ1 H1 sI := J'.ofTry ok
    obtain ⟨x, ρ1, F1, A1, st, kp, g1, rx, e1, hn, p1⟩ := w
    have sky1 : Sky B (X.env :: X.outer) a (Zc cls d) X.env.locals s'.heap := hs ▸ sky
    refine Sky.land Zc.steady fr0 hf sky1 fun h3 fl3 up3 => ?_
    obtain ⟨oe3, vs3, he3, hz3, hd3⟩ := fl3.there
    have J3 : L2.Inv X pins σ1 H1 { s' with heap := h3 } := J.landed nb fl3.1 (up.trans up3) os ag
    have nfr : a ∉ frs (X.env :: X.outer) := fun hm => by
      obtain ⟨_, o', e', hnf⟩ := fl3.2.2.1.mem hm
      rw [he3] at e'; cases e'
      exact hnf _ hd3
    have nL : a ≠ X.env.locals := fun z => nfr (List.mem_filterMap.mpr ⟨X.env, List.mem_cons_self, by rw [hf, z]⟩)
    have nI : sI.heap.get? a = none := by
      cases q : sI.heap.get? a with
      | none => rfl
      | some o =>
        have := nb a o q (by rw [hs]; exact nfr)
        rw [fl3.2.1] at this; cases this
    have n0 : X.s_0.heap.get? a = none := by
      cases q : X.s_0.heap.get? a with
      | none => rfl
      | some o =>
        obtain ⟨o', q'⟩ := J.base.there a o q (by rw [hx]; exact List.not_mem_nil)
        rw [nI] at q'; cases q'
    have np : ∀ y ∈ X.pn ++ pins, y.1 ≠ a := fun y hy z => by
      have := (J.pin y hy).1
      rw [z, nI] at this; cases this
    have ecls : cls = .ref (c.cA x.cls) := rx.1
    have go : ∀ {hds' : List ExceptHandler} {l' : List Hd}, HdOk c fx n X hds' l' → PostS c W fx σ H F A (runHd l' x ρ1) En →
        wpAny (model X.prog X.w) X.A (handleBy (.ref a) X.env hds') (SP X pins En) X.xe { s' with heap := h3 } := by
      intro hds' l' hk
      have LT : PySem.W.Looks (model X.prog X.w) h3 (typeOf (.ref a)) cls := fun A' Q' E' s'' kk q => wpAny_typeOf_ref (kk _ _ he3) (by rw [hz3.1]; exact q)
      have S3 : L2.Inv (X.suite a (X.pn ++ pins)) [] σ1 H1 { s' with heap := h3 } := Inv.suite0 J3 a
      have name : ∀ {y : Str} {np' : Pos} {cv : Value} {Q : Value → Shared → Prop} {E : Value → Shared → Prop}, Names X y cv → Q cv { s' with heap := h3 } → wpAny (model X.prog X.w) (X.A.mark (some (.ref a))) (eval (.Name y np') X.env) Q E { s' with heap := h3 } := fun hc q => by
        obtain ⟨hg, hdbg, hm | ⟨hm, hv, hnn⟩⟩ := hc
        · exact ld_glob S3 hg hm q hdbg
        · exact ld_blt S3 hg hm hv q hnn hdbg
      -- the suite's start
      have enter : ∀ {h4 : Heap}, HandSPX.FlyingZ B (X.env :: X.outer) a (Zc cls d) h4 → h3.UpToSlots h4 → L2.Inv (X.suite a (X.pn ++ pins)) [] σ1 (upd H1 a (exv a (c.cA x.cls) d)) { s' with heap := h4 } := fun {h4} fl4 up4 => by
        obtain ⟨oe4, vs4, he4, hz4, hd4⟩ := fl4.there
        have J4 : L2.Inv X pins σ1 H1 { s' with heap := h4 } := J.landed nb fl4.1 ((up.trans up3).trans up4) os ag
        refine Inv.track (Inv.suite0 J4 a) n0 na nL (fun y cc ec z => ?_) (fun y hy => np y (by rw [List.append_nil] at hy; exact hy)) (exv_ok he4 (ecls ▸ hz4) hd4)
        obtain ⟨v, o', q1, q2⟩ := J4.cell y cc ec
        rw [z] at q1
        rw [show h4.get? a = some oe4 from he4] at q1; cases q1
        rw [hd4] at q2; cases q2
      induction hk with
      | nil =>
        intro pp
        refine wpAny_handleBy_nil ?_
        have leave : wpAny (model X.prog X.w) X.A (setFlight (.ref a) X.env.frame) (fun _ s4 => wpAny (model X.prog X.w) X.A (throw (.ref a) : Sem Flow) (SP X pins En) X.xe s4) X.xe { s' with heap := h3 } := by
          rw [hf]
          refine HandSPX.setFlight_upZ fl3 fun h4 hh4 up4 => wpAny_throw (D.tk _ _ ?_)
          exact ⟨a, B, sI, pins, σ1, H1, cls, d, rfl, J, nb, (up.trans up3).trans up4, .inr (.inr (by rw [hs]; exact hh4)), na, os, ag, pp cls d σ1 H1 F1 A1 st g1 rx e1 kp⟩
        obtain ⟨_, _, _, oe, vs, T, oT, ts', q1, _, q2, q3, _⟩ := id fl3
        unfold PySem.passOn
        refine wpAny_bind (wpAny_field q1 q2 q3 ?_)
        rw [if_neg (show ¬ ((Value.ref T == Value.none) = true) from by simp)]
        first
          | exact wpAny_bind (wpAny_pure (wpAny_bind leave))
          | exact wpAny_bind leave
      | @cons y np' ps b bs hds2 l2 j ks s2 hg ht hsu r ih =>
        intro pp
        have hex : PySem.W.exmOne X.K cls (.ref (c.cA j)) = some (ks.contains x.cls) := by rw [ecls]; exact ht _ hn
        have LM := PySem.W.exm_one (M := model X.prog X.w) J3.kIn LT hex
        refine wpAny_handleBy_cons (codeAny_handlers_test (name hg (LM.here ?_))) (by intro q; cases q)
        unfold runHd at pp
        by_cases hc : ks.contains x.cls = true
        · rw [if_pos hc] at pp
          rw [hc]
          refine codeAny_handlers_suite (HandSPX.lands_againZ fl3 fun h4 fl4 up4 => ?_)
          obtain ⟨t1, t2, t3, t4⟩ := suite_rx g1 rx e1 na
          refine wpAny_mono ((hsu a (X.pn ++ pins)).run [] _ σ1 _ En (enter fl4 up4) ⟨ρ1, _, A1, t2, t3, suite_none pp (st.trans t1) kp⟩) (fun f s6 hsp => ?_) (fun _ _ z => False.elim z)
          cases f with
          | next => obtain ⟨σ6, H6, S6, q6⟩ := hsp; exact ⟨_, _, Inv.unsuite0 S6 ok, q6⟩
          | brk => obtain ⟨σ6, H6, S6, q6⟩ := hsp; exact ⟨_, _, Inv.unsuite0 S6 ok, q6⟩
          | cont => obtain ⟨σ6, H6, S6, q6⟩ := hsp; exact ⟨_, _, Inv.unsuite0 S6 ok, q6⟩
          | ret u => obtain ⟨v6, σ6, H6, S6, r6, q6⟩ := hsp; exact ⟨_, _, _, Inv.unsuite0 S6 ok, r6, q6⟩
        · rw [if_neg hc] at pp
          rw [Bool.eq_false_iff.mpr hc]
          exact ih pp
      | @consAs y nn np' ps b bs hds2 l2 i j ks s2 hi hl hfi hg ht hsu r ih =>
        intro pp
        have hex : PySem.W.exmOne X.K cls (.ref (c.cA j)) = some (ks.contains x.cls) := by rw [ecls]; exact ht _ hn
        have LM := PySem.W.exm_one (M := model X.prog X.w) J3.kIn LT hex
        refine wpAny_handleBy_cons (codeAny_handlers_test (name hg (LM.here ?_))) (by intro q; cases q)
        unfold runHd at pp
        by_cases hc : ks.contains x.cls = true
        · rw [if_pos hc] at pp
          rw [hc]
          refine codeAny_handlers_suite_as (HandSPX.lands_againZ fl3 fun h4 fl4 up4 => ?_)
          obtain ⟨t1, t2, t3, t4⟩ := suite_rx g1 rx e1 na
          refine store_ok (X := X.suite a (X.pn ++ pins)) (v := .ref a) (enter fl4 up4) D.nd hi (.inl hl) rfl (fun s5 S5 => ?_) (.inr hl)
          have e5 := RE.storeAny (i := i) t3 t4 Dis.empl
          have e6 := e5.mono (Sub.uni Sub.emp (Sub.refl A1))
          refine wpAny_mono ((hsu a (X.pn ++ pins)).run [] s5 _ _ (goneD i En) S5 ⟨_, _, A1, t2, e6, suite_some hfi pp (st.trans t1) (kp.trans (Keep.set hfi))⟩) (fun f s6 hsp => ?_) (fun _ _ z => False.elim z)
          cases f with
          | next => obtain ⟨σ6, H6, S6, q6⟩ := hsp; exact gone_ok (Inv.unsuite0 S6 ok) D.nd hi hl fun s7 J7 => ⟨_, _, J7, q6⟩
          | brk => obtain ⟨σ6, H6, S6, q6⟩ := hsp; exact gone_ok (Inv.unsuite0 S6 ok) D.nd hi hl fun s7 J7 => ⟨_, _, J7, q6⟩
          | cont => obtain ⟨σ6, H6, S6, q6⟩ := hsp; exact gone_ok (Inv.unsuite0 S6 ok) D.nd hi hl fun s7 J7 => ⟨_, _, J7, q6⟩
          | ret u => obtain ⟨v6, σ6, H6, S6, r6, q6⟩ := hsp; exact gone_ok (Inv.unsuite0 S6 ok) D.nd hi hl fun s7 J7 => ⟨_, _, _, J7, r6, q6⟩
        · rw [if_neg hc] at pp
          rw [Bool.eq_false_iff.mpr hc]
          exact ih pp
    exact go hh p1
  refine wpAny_mono run (fun f s1 hsp => ?_) (fun _ _ he => he)
  cases f with
  | next => obtain ⟨σ', H', J', q⟩ := hsp; exact wpAny_execs_nil ⟨σ', H', J'.ofTry ok, q⟩
  | brk => obtain ⟨σ', H', J', q⟩ := hsp; exact ⟨σ', H', J'.ofTry ok, q⟩
  | cont => obtain ⟨σ', H', J', q⟩ := hsp; exact ⟨σ', H', J'.ofTry ok, q⟩
  | ret u => obtain ⟨v, σ', H', J', r, q⟩ := hsp; exact ⟨v, σ', H', J'.ofTry ok, r, q⟩
end
end Tr
namespace Tr
open PySem PySem.Spec PyProof.Rows L2
structure XT (K : PySem.W.Frag) (mg : Str → Option Value) (c : RC) (j : Nat) (x : Str) : Prop where
  mg : mg x = some (.ref (c.cA j))
  sub : PySem.W.subIn K (.ref (c.cA j)) (.type "BaseException") = some true
  ty : PySem.W.typeIn K (.ref (c.cA j)) = some (.type "type")
  kp : PySem.W.keepIn K (.ref (c.cA j)) = true
  cl : PySem.W.isClsIn K (c.cA j) = true
  hd : PySem.W.hasDictIn K (c.cA j) = true
  ga : PySem.W.findIn K (.ref (c.cA j)) "__getattribute__" = some (some (.builtin "BaseException.__getattribute__"))
  gg : PySem.W.findIn K (.ref (c.cA j)) "__getattr__" = some none
  ca : PySem.W.findIn K (.ref (c.cA j)) "__class__" = some (some (.builtin "object.__class__"))
  mo : PySem.W.mroIn K (c.cA j) (.type "object") = some true
structure XG (K : PySem.W.Frag) : Prop where
  sp : PySem.W.specialIn K (.builtin "object.__class__") "__get__" = some (some (.builtin "getset_descriptor.__get__"))
  tk : PySem.W.takesIn K (.builtin "object.__class__") = some true
def XS (K : PySem.W.Frag) (c : RC) (n : Nat) (u : Value) (ks : List Nat) : Prop := ∀ i, i < n → PySem.W.subIn K (.ref (c.cA i)) u = some (ks.contains i)
section
variable {K : PySem.W.Frag} {mg : Str → Option Value} {c : RC} {n j : Nat} {x : Str} {ks : List Nat}
theorem XS.exm (h : XS K c n (.ref (c.cA j)) ks) (T : XT K mg c j x) : ∀ i, i < n → PySem.W.exmOne K (.ref (c.cA i)) (.ref (c.cA j)) = some (ks.contains i) := fun i hi => by
  have e2 : ((PySem.W.clsIn K (c.cA j)).isSome && PySem.W.typeIn K (.ref (c.cA j)) == some (.type "type")) = true := by
    rw [show (PySem.W.clsIn K (c.cA j)).isSome = true from T.cl, T.ty] <;> rfl
  unfold PySem.W.exmOne PySem.W.kitCls
  rw [if_pos (by rw [T.sub] <;> rfl)]
  dsimp only
  rw [if_pos e2]
  exact h i hi
theorem XS.kit (h : XS K c n (.ref (c.cA j)) ks) (T : XT K mg c j x) (hj : j < n) (hk : ks.contains j = true) : ∀ i, i < n → PySem.W.kitOne K (.ref (c.cA i)) (.ref (c.cA j)) = some (ks.contains i) := fun i hi => by
  have e2 : ((PySem.W.clsIn K (c.cA j)).isSome && PySem.W.typeIn K (.ref (c.cA j)) == some (.type "type")) = true := by
    rw [show (PySem.W.clsIn K (c.cA j)).isSome = true from T.cl, T.ty] <;> rfl
  unfold PySem.W.kitOne PySem.W.kitCls
  split
  · rename_i e
    have e' : c.cA i = c.cA j := Value.ref.inj (beq_iff_eq.mp e)
    have h1 := h i hi
    have h2 := h j hj
    rw [e', h2] at h1
    rw [hk] at h1
    exact h1
  · dsimp only
    rw [if_pos e2]
    exact h i hi
theorem XS.kitT {T : String} (h : XS K c n (.type T) ks) (hm : PySem.W.kitMeta T = true) : ∀ i, i < n → PySem.W.kitOne K (.ref (c.cA i)) (.type T) = some (ks.contains i) := fun i hi => by
  unfold PySem.W.kitOne PySem.W.kitCls
  rw [if_neg (by simp)]
  dsimp only
  rw [if_pos hm]
  exact h i hi
end
section
variable {X : Cx} {c : RC} {W : WX} {k n : Nat} {o : Expr} {oo : Opd} {pos p p2 p3 pos' : Pos}
def tXv (K : PySem.W.Frag) (C : Addr) (f : Str) (to : TE) : TE := fun σ H Q => to σ H fun x H1 => ∃ a dd fs v, x = .ref a ∧ H1 a = some (exv a C (some dd)) ∧ H1 dd = some (.xd fs) ∧ fs.lookup f = some v ∧ Q v H1
theorem exv_at {P : Program} {w : World} {H : Hp} {h : Heap} {a C : Addr} {d : Option Addr} (I : HOk P w H h) (e : H a = some (exv a C d)) : ∃ oe vs, h.get? a = some oe ∧ oe.cls = .ref C ∧ oe.dict = d ∧ oe.data = .fields vs :=
  (show ObjOk P w H h a (exv a C d) from I a _ e).1
theorem pe_xv {to : TE} {f : Str} {C : Addr} (ga : PySem.W.findIn X.K (.ref C) "__getattribute__" = some (some (.builtin "BaseException.__getattribute__"))) (gg : PySem.W.findIn X.K (.ref C) "__getattr__" = some none)
    (sub : PySem.W.subIn X.K (.ref C) (.type "BaseException") = some true) (hd : PySem.W.hasDictIn X.K C = true) (no : PySem.W.findIn X.K (.ref C) f = some none) (he : PE X o to) (hb : attributeBase o f X.env (eval o X.env) = eval o X.env := by rfl) :
    PE X (.Attribute o f pos) (tXv X.K C f to) := by
  refine ⟨fun pins s σ H Q I h => attr_of hb (thn (he.run pins s σ H _ I h) fun u s1 hh => ?_)⟩
  obtain ⟨x, H1, I1, rx, a, dd, fs, v, rfl, ea, ed, l, q⟩ := hh
  obtain rfl : u = Value.ref a := rx
  obtain ⟨oe, vs, h1, h2, h3, h4⟩ := exv_at I1.hok ea
  obtain ⟨mA, hns, hr⟩ := (show ObjOk X.prog X.w H1 s1.heap dd (.xd fs) from I1.hok dd _ ed)
  obtain ⟨od, ho, hl⟩ := lookIn_ns hns
  obtain ⟨u, hu, ru⟩ := RelO.some_of (v := v) (o := mA f) (by rw [← l]; exact hr f)
  have J : PySem.W.InstAt s1.heap a oe C (some od) := ⟨h1, h2, by unfold PySem.W.notCls; rw [h4] <;> rfl, by rw [h3]; exact ho⟩
  exact HandSPX.exc_get I1.kIn J ga gg sub (PySem.W.findObj_own hd no rfl (by rw [hl, hu])) (handed_of ru) ⟨v, H1, I1.tok _, ru, q⟩
theorem lookup_zip : ∀ {fs : List Str} {vs : List V} {j : Nat} {f : Str}, fs[j]? = some f → (∀ i, i < j → fs[i]? ≠ some f) → (fs.zip vs).lookup f = vs[j]?
  | [], vs, j, f, h, _ => by simp at h
  | g :: fs, [], j, f, h, _ => by simp
  | g :: fs, v :: vs, 0, f, h, _ => by
    simp at h; subst h
    simp [List.lookup]
  | g :: fs, v :: vs, j + 1, f, h, n => by
    have ne : (f == g) = false := by
      have := n 0 (by omega)
      simp at this
      simpa using fun e => this e.symm
    rw [List.zip_cons_cons, List.lookup_cons, ne]
    have := lookup_zip (vs := vs) (j := j) (f := f) (by simpa using h) (fun i hi => by simpa using n (i + 1) (by omega))
    simpa using this
theorem e_xfld {kk j : Nat} {x f : Str} {fs : List Str} (D : Ds X c) (T : XT X.K X.mg c kk x) (hF : c.cF kk = fs) (hj : fs[j]? = some f) (hd : ∀ i, i < j → fs[i]? ≠ some f) (no : PySem.W.findIn X.K (.ref (c.cA kk)) f = some none)
    (ho : SO X c W o oo) (hb : attributeBase o f X.env (eval o X.env) = eval o X.env := by rfl) : SE X c W (.Attribute o f pos) (eP1 (xfld kk j) oo) := by
  refine PE.weak (pe_xv T.ga T.gg T.sub T.hd no ho hb) fun σ H Q q => ?_
  refine tO.one q fun v x y ρ1 H1 F1 A1 b g sb e ⟨a, sa, r⟩ kq p => ?_
  cases v with
  | exc k2 vals =>
    simp only [xfld] at kq
    split at kq
    · rename_i ek
      subst ek
      obtain ⟨pa, d, vs, rfl, ⟨h1, h2⟩, z, rs⟩ := r
      rcases z with ⟨z1, z2⟩ | ⟨dd, rfl, l, h3⟩
      · rw [z1] at kq; simp at kq
      · obtain ⟨w, bb, e1, _, rw'⟩ := rs.get kq
        refine ⟨pa, dd, _, w, rfl, h1, h3, ?_, ?_⟩
        · rw [hF, lookup_zip hj hd]; exact e1
        · exact Post.now p g sb (rs.getV kq e1) e
    · cases kq
  | non => cases kq
  | bl _ => cases kq
  | int _ => cases kq
  | str _ => cases kq
  | tup _ => cases kq
  | lst _ _ => cases kq
  | dct _ _ _ => cases kq
  | ins _ _ _ => cases kq
  | con _ => cases kq
  | st _ _ => cases kq
theorem exv_kit {C : Addr} {x : Str} {j : Nat} (T : XT X.K X.mg c j x) (G : XG X.K) {P : Program} {w : World} {H : Hp} {h : Heap} {a : Addr} {d : Option Addr} (I : HOk P w H h) (e : H a = some (exv a (c.cA j) d)) (hdd : ∀ dd, d = some dd → ∃ fs, H dd = some (.xd fs)) :
    ∃ ox od, PySem.W.KitX X.K (.ref a) (.ref (c.cA j)) (fun h => PySem.W.InstAt h a ox (c.cA j) od) ∧ PySem.W.InstAt h a ox (c.cA j) od := by
  obtain ⟨oe, vs, h1, h2, h3, h4⟩ := exv_at I e
  have nc : PySem.W.notCls oe = true := by unfold PySem.W.notCls; rw [h4] <;> rfl
  cases d with
  | none => exact ⟨oe, none, PySem.W.kitx_exc T.cl T.ga T.gg T.sub T.ca G.sp G.tk T.mo, h1, h2, nc, by rw [h3]; trivial⟩
  | some dd =>
    obtain ⟨fs, hf⟩ := hdd dd rfl
    obtain ⟨mA, ⟨od, _, _, ho, _⟩, _⟩ := (show ObjOk P w H h dd (.xd fs) from I dd _ hf)
    exact ⟨oe, some od, PySem.W.kitx_exc T.cl T.ga T.gg T.sub T.ca G.sp G.tk T.mo, h1, h2, nc, by rw [h3]; exact ho⟩
def IsX (c : RC) (H : Hp) (x : V) (j : Nat) : Prop := ∃ a d, x = .ref a ∧ H a = some (exv a (c.cA j) d) ∧ ∀ dd, d = some dd → ∃ fs, H dd = some (.xd fs)
def XAll (K : PySem.W.Frag) (mg : Str → Option Value) (c : RC) (n : Nat) : Prop := ∀ j, j < n → ∃ x, XT K mg c j x
def rIX1 (c : RC) (K : PySem.W.Frag) (n : Nat) : List V → Hp → VK → Prop := fun xs H Q => ∃ (x cv : V) (u : Value) (j : Nat) (b : Bool), xs = [x, cv] ∧ ClsV cv u ∧ j < n ∧ IsX c H x j ∧ PySem.W.kitOne K (.ref (c.cA j)) u = some b ∧ Q (.bl b) H
theorem cr_ix1 (A : XAll X.K X.mg c n) (G : XG X.K) : CallR X (.builtin "isinstance") (rIX1 c X.K n) := by
  intro pins s σ H xs us Q I r h
  obtain ⟨x, cv, u, j, b, rfl, k, hj, ⟨a, d, rfl, ha, hdd⟩, e, q⟩ := h
  obtain ⟨u1, u2, rfl, r1, r2⟩ := vals2 r
  have e2 := k.eq r2
  subst e2
  obtain ⟨y, T⟩ := A j hj
  obtain ⟨ox, od, Z, p⟩ := exv_kit (X := X) (C := 0) T G I.hok ha hdd
  cases (show u1 = Value.ref a from r1)
  exact PySem.W.kia_one Z I.kIn p e (fun z => nomatch z) fun tk => ⟨.bl b, H, I.tok tk, rfl, q⟩
def tCls (v : V) : TE := fun σ H Q => Q v H
structure CE (X : Cx) (e : Expr) (v : V) (u : Value) : Prop where
  pe : PE X e (tCls v)
  cv : ClsV v u
theorem ce_ty {T : String} {x : Str} (hg : Gl X x) (hm : X.mg x = none) (hb : bootBuiltins x = some (.type T)) (hn : x ≠ "__name__" := by decide) (hd : (x == ("__debug__" : Str)) = false := by decide) : CE X (.Name x pos) (.ty T) (.type T) :=
  ⟨PE.weak (pe_bltn (v := .ty T) hg hm hb rfl hn hd) fun _ _ _ q => q, .ty T⟩
theorem ce_own {j : Nat} {x : Str} (T : XT X.K X.mg c j x) (hg : Gl X x) (hd : (x == ("__debug__" : Str)) = false := by decide) : CE X (.Name x pos) (.ref (c.cA j)) (.ref (c.cA j)) :=
  ⟨PE.weak (pe_glob hg T.mg (v := .ref (c.cA j)) rfl hd) fun _ _ _ q => q, .own _⟩
theorem isx_of {H : Hp} {F A : AS} {k2 : Nat} {vals : List PV} {x : V} (r : R c H F (.exc k2 vals) x A) : IsX c H x k2 := by
  obtain ⟨pa, d, vs, rfl, ⟨h1, _⟩, z, _⟩ := r
  refine ⟨pa, d, rfl, h1, fun dd ed => ?_⟩
  rcases z with ⟨_, z2⟩ | ⟨d2, e2, _, h3⟩
  · rw [z2] at ed; cases ed
  · rw [e2] at ed; cases ed; exact ⟨_, h3⟩
theorem e_ix1 {cE : Expr} {cv : V} {u : Value} {ks : List Nat} (A : XAll X.K X.mg c n) (G : XG X.K) (hm : X.mg "isinstance" = none) (hg : Gl X "isinstance") (C : CE X cE cv u) (hk : ∀ i, i < n → PySem.W.kitOne X.K (.ref (c.cA i)) u = some (ks.contains i)) (ho : SO X c W o oo)
    (st : starEach [o, cE] X.env = (false, eval o X.env) :: starEach [cE] X.env := by rfl) (st2 : starEach [cE] X.env = (false, eval cE X.env) :: starEach [] X.env := by rfl) (he : (backTo pos (starEach [cE] X.env)).any (·.1) = false := by rfl) :
    SE X c W (.Call (.Name "isinstance" p) [o, cE] [] pos) (eT (tPV (isaX n ks) oo)) := by
  refine PE.weak (pe_callB (cr_ix1 A G) hg hm (by decide +kernel) (pa_cons ho (pa_cons C.pe pa_nil st2) st) (by decide) (by decide) st he) fun σ H Q q => ?_
  refine tO.one (eT_bl q) fun v x y ρ1 H1 F1 A1 b g sb e ⟨a, sa, r⟩ kq p => ?_
  cases v with
  | exc k2 vals =>
    simp only [isaX] at kq
    split at kq
    · rename_i hlt
      cases kq
      exact ⟨x, cv, u, k2, _, rfl, C.cv, hlt, isx_of r, hk _ hlt, p.now g sb rfl e⟩
    · cases kq
  | non => cases kq
  | bl _ => cases kq
  | int _ => cases kq
  | str _ => cases kq
  | tup _ => cases kq
  | lst _ _ => cases kq
  | dct _ _ _ => cases kq
  | ins _ _ _ => cases kq
  | con _ => cases kq
  | st _ _ => cases kq
end
end Tr
namespace Tr
open PySem PySem.Spec PyProof.Rows L2
section
variable {X : Cx} {c : RC} {W : WX} {k n : Nat} {o : Expr} {oo : Opd} {pos p p2 p3 pos' : Pos} {fx : Nat → Bool}
theorem Stp.raise {H : Hp} {F a b : AS} {d : Addr} {o : HO} (hd : H d = none) : Stp H F (Uni a b) (upd H d o) (Uni F a) b := by
  have nt : ∀ q u, H q = some u → q ≠ d := fun q u e z => by rw [z, hd] at e; cases e
  refine ⟨fun p u e _ => by rw [upd_ne (nt p u e)]; exact e, fun p e => ?_, fun p h => .inl h, fun p h => h.elim .inl fun z => .inr (.inr (.inl z)), fun p h => .inr (.inr h)⟩
  by_cases z : p = d
  · rw [z]; exact hd
  · rw [upd_ne z] at e; exact e
theorem Stp.raise1 {H : Hp} {F a b : AS} : Stp H F (Uni a b) H (Uni F a) b :=
  ⟨fun p u e _ => e, fun p e => e, fun p h => .inl h, fun p h => h.elim .inl fun z => .inr (.inr (.inl z)), fun p h => .inr (.inr h)⟩
theorem Good.raise1 {H : Hp} {F a b : AS} (g : Good H F (Uni a b)) (d : Dis a b) : Good H (Uni F a) b :=
  ⟨fun p h => by
    obtain ⟨h1, o, h2, h3⟩ := g.own p (.inr h)
    exact ⟨fun z => z.elim h1 fun z => d p z h, o, h2, h3⟩, fun p h => h.elim (g.fro p) fun z => by
    obtain ⟨_, o, h2, _⟩ := g.own p (.inl z)
    exact ⟨o, h2⟩⟩
theorem Good.raise {H : Hp} {F a b : AS} {d : Addr} {o : HO} (g : Good H F (Uni a b)) (dd : Dis a b) (hd : H d = none) : Good (upd H d o) (Uni F a) b := (Good.raise1 g dd).newT hd
theorem ss_raise0 {j : Nat} {x : Str} {e : Expr} {te : TE} (D : Dk X c W k) (T : XT X.K X.mg c j x) (hmk : PMk X e (fun σ H Q => te σ H fun _ H1 => Q (.ref (c.cA j)) none H1)) {g : AF} (hg : ∀ σ H (Q : Hp → Prop), tG c W (relL c) g σ H (fun _ H1 => Q H1) → te σ H fun _ H1 => Q H1) :
    SS c W fx X (.Raise (some e) none pos) (sRaise0 j g) := by
  refine PS.weak (ps_raise D.calm D.tk hmk) fun En σ H q => ?_
  refine hg σ H _ (tS.expr (rel := relL c) (f := g) (k := fun _ ρ1 => .er ⟨j, []⟩ ρ1) q fun v xs ρ1 H1 F1 a b g1 d1 r e1 p1 => ?_)
  exact p1 _ none σ H1 F1 b (Stp.refl.drop Sub.r) (g1.sub Sub.r) ⟨rfl, by rw [if_pos rfl]⟩ e1 Keep.refl
def spI (K : PySem.W.Frag) (C : Addr) (fl : List Str) : Sp := fun vs H Q _ => ∃ a ys, vs = .ref a :: ys ∧ ys.length = fl.length ∧ OexC K C ∧ H a = some (exo a C none) ∧
  ∀ dx H', H dx = none → dx ≠ a → H' = upd (upd H dx (exd dx ((fl.zip ys).reverse))) a (exo a C (some dx)) → Q .non H'
theorem rd_I1 {K : PySem.W.Frag} {C : Addr} {f : Str} {vs : List V} {H : Hp} {Q : VK} {E : XK} {D : Ends} {σ : L2.St} (hno : PySem.W.findIn K (.ref C) f = some none) (h : spI K C [f] vs H Q E) (hσ : σ = vs.map some) (hD : ∀ σ H', Q .non H' → D.nx σ H') : tOst K f (tVar 0) (tVar 1) D σ H := by
  obtain ⟨a, ys, rfl, hl, T, ha, q⟩ := h
  match ys, hl with
  | [y], _ =>
    subst hσ
    exact ⟨y, rfl, .ref a, rfl, a, C, rfl, T, hno, .inl ⟨ha, fun dx h1 h2 => hD _ _ (q dx _ h1 h2 rfl)⟩⟩
theorem rd_I2 {K : PySem.W.Frag} {C : Addr} {f f2 : Str} {vs : List V} {H : Hp} {Q : VK} {E : XK} {D : Ends} {σ : L2.St} (hno : PySem.W.findIn K (.ref C) f = some none) (hno2 : PySem.W.findIn K (.ref C) f2 = some none) (h : spI K C [f, f2] vs H Q E) (hσ : σ = vs.map some) (hD : ∀ σ H', Q .non H' → D.nx σ H') :
    tOst K f (tVar 0) (tVar 1) { D with nx := fun σ H => tOst K f2 (tVar 0) (tVar 2) D σ H } σ H := by
  obtain ⟨a, ys, rfl, hl, T, ha, q⟩ := h
  match ys, hl with
  | [y, z], _ =>
    subst hσ
    refine ⟨y, rfl, .ref a, rfl, a, C, rfl, T, hno, .inl ⟨ha, fun dx h1 h2 => ?_⟩⟩
    refine ⟨z, rfl, .ref a, rfl, a, C, rfl, T, hno2, .inr ⟨dx, [(f, y)], upd_same, by rw [upd_ne h2, upd_same], by simp, hD _ _ (q dx _ h1 h2 ?_)⟩⟩
    funext b
    by_cases hb : b = dx
    · subst hb; rw [upd_same, upd_ne h2, upd_same]; rfl
    · rw [upd_ne hb]
      by_cases hba : b = a
      · subst hba; rw [upd_same, upd_same]
      · rw [upd_ne hba, upd_ne hba, upd_ne hb, upd_ne hb]
theorem rev_zip {α β : Type} : ∀ {xs : List α} {ys : List β}, xs.length = ys.length → (xs.zip ys).reverse = xs.reverse.zip ys.reverse
  | [], [], _ => rfl
  | x :: xs, y :: ys, h => by
    have h' : xs.length = ys.length := by simpa using h
    rw [List.zip_cons_cons, List.reverse_cons, List.reverse_cons, List.reverse_cons, List.zip_append (by simpa using h'), rev_zip h']
    rfl
theorem Rs.reverse {H : Hp} {F : AS} {xs : List PV} {vs : List V} (r : Rs c H F xs vs Emp) : Rs c H F xs.reverse vs.reverse Emp := Rs.rev r
theorem e_raise {j kk : Nat} {x : Str} {e : Expr} {es : List Expr} {g : AF} {fI : Addr} {fd : FuncData} {ps fl : List Str} (D : Dk X c W k) (T : XT X.K X.mg c j x) (O : OexC X.K (c.cA j)) (hF : c.cF j = fl.reverse) (hne : fl ≠ [])
    (iC : PySem.W.findIn X.K (.ref (c.cA j)) "__init__" = some (some (.ref fI))) (tI : PySem.W.typeIn X.K (.ref fI) = some (.type "function")) (F1 : FnOk X.prog X.w X.K X.mg X.base (L2.CX X.prog X.w) kk fI fd ps (spI X.K (c.cA j) fl)) (hk : kk + 1 ≤ k) (hb : Binds X.K fd ps []) (hg : Gl X x)
    (ha : SA X c W (e :: es) g) (hn : ∀ ρ vs ρ', g ρ = .ok vs ρ' → vs.length = fl.length) (hl : fl.length ≤ 1000) (hdb : (x == ("__debug__" : Str)) = false := by decide) (he : starEach (e :: es) X.env = (false, eval e X.env) :: starEach es X.env := by rfl) (hpl : (backTo pos (starEach es X.env)).any (·.1) = false := by rfl) :
    SS c W fx X (.Raise (some (.Call (.Name x p) (e :: es) [] pos)) none pos') (sRaise j g) := by
  refine PS.weak (ps_raise D.calm D.tk (pmk_oex O iC tI F1 (D.hr.mono hk) hb .nil passL hg T.mg ha hdb he hpl)) fun En σ H q => ?_
  have hq : tS c W fx (fun ρ => sOf (g ρ) fun vs ρ1 => if vs.length = fl.length then .er ⟨j, (frzs vs).reverse⟩ ρ1 else .bad) En σ H := by
    obtain ⟨ρ, F, A, gd, re, pp⟩ := q
    refine ⟨ρ, F, A, gd, re, ?_⟩
    unfold sRaise at pp
    show PostS c W fx σ H F A (sOf (g ρ) fun vs ρ1 => if vs.length = fl.length then .er ⟨j, (frzs vs).reverse⟩ ρ1 else .bad) En
    cases r : g ρ with
    | ok vs ρ1 =>
      rw [r] at pp
      rw [sOf_ok] at pp ⊢
      rw [if_pos (hn _ _ _ r)]
      exact pp
    | er x ρ1 => rw [r] at pp; exact pp
    | bad => rw [r] at pp; exact pp
  refine tS.expr (rel := relL c) (f := g) hq fun vs xs ρ1 H1 F1 a b g1 d1 r e1 p1 => ?_
  have hlen : vs.length = fl.length := by
    by_cases z : vs.length = fl.length
    · exact z
    · rw [if_neg z] at p1; exact (show False from p1).elim
  rw [if_pos hlen] at p1
  have r' : Rs c H1 F1 vs xs a := r
  have lx : xs.length = fl.length := by rw [r'.len, hlen]
  refine ⟨by omega, fun a0 h0 => ?_⟩
  refine ⟨a0, xs ++ [], by simp, by simpa using lx, O, upd_same, fun dx H' h1 h2 e2 => ?_⟩
  subst e2
  have hd1 : H1 dx = none := by rw [upd_ne h2] at h1; exact h1
  have ef : (upd (del (upd (upd (upd H1 a0 (exo a0 (c.cA j) none)) dx (exd dx ((fl.zip (xs ++ [])).reverse))) a0 (exo a0 (c.cA j) (some dx))) a0) dx (.xd ((fl.zip (xs ++ [])).reverse))) = upd H1 dx (.xd ((fl.zip (xs ++ [])).reverse)) := by
    funext q
    by_cases z : q = dx
    · subst z; rw [upd_same, upd_same]
    · rw [upd_ne z, upd_ne z]
      by_cases z2 : q = a0
      · subst z2; rw [del_same, h0]
      · rw [del_ne z2, upd_ne z2, upd_ne z, upd_ne z2]
  refine ⟨rfl, dx, (fl.zip (xs ++ [])).reverse, upd_same, by rw [upd_ne h2, upd_same], hd1, ?_⟩
  rw [ef, List.append_nil]
  have st := Stp.raise (H := H1) (F := F1) (a := a) (b := b) (o := .xd ((fl.zip xs).reverse)) hd1
  have ga : Good H1 F1 a := g1.sub Sub.l
  have sa : Stp H1 F1 a (upd H1 dx (.xd ((fl.zip xs).reverse))) (Uni F1 a) Emp := (Stp.raise (b := Emp) hd1).more (Sub.uni (Sub.refl _) Sub.emp)
  have rf : Rs c (upd H1 dx (.xd ((fl.zip xs).reverse))) (Uni F1 a) (frzs vs) xs Emp := by
    have r1 : Rs c H1 (Uni F1 a) (frzs vs) xs Emp := Rs.frz (Rs.up Sub.l r') fun q z => .inr z
    have g2 : Good H1 (Uni F1 a) Emp := (Good.raise1 g1 d1).sub Sub.emp
    exact Rs.step g2 (Stp.newT hd1) r1 Dis.empl
  refine p1 _ (some dx) σ _ (Uni F1 a) b st (Good.raise g1 d1 hd1) ⟨rfl, ?_⟩ (RE.step ga sa e1 d1.sym) Keep.refl
  have nn : ¬ (frzs vs).reverse = [] := by
    intro z
    have := congrArg List.length z
    rw [frzs_eq, List.length_reverse, List.length_map, hlen] at this
    exact hne (List.length_eq_zero_iff.mp this)
  rw [if_neg nn]
  refine ⟨dx, xs.reverse, rfl, ?_, ?_, Rs.reverse rf⟩
  · rw [frzs_eq, List.length_reverse, List.length_map, hlen, hF, List.length_reverse]
    exact Nat.le_refl _
  · show upd H1 dx _ dx = _
    rw [upd_same, hF, rev_zip lx.symm]
end
end Tr
set_option autoImplicit false
namespace Tr
def eFrz (f : EF) : EF := fun ρ => (f ρ).bind fun v ρ1 => .ok (frz v) ρ1
def eDct0 : EF := fun ρ => .ok (.dct true [] []) ρ
end Tr
namespace Tr
open PySem PySem.Spec PyProof.Rows L2
section
variable {X : Cx} {c : RC} {W : WX} {k n : Nat} {e a b : Expr} {f : EF} {oa ob : Opd} {pos p p2 : Pos}
theorem se_frz (h : SE X c W e f) : SE X c W e (eFrz f) := PE.weak h fun σ H Q q => by
  refine tG.bind (rel' := relE c) (g := fun v ρ1 => .ok (frz v) ρ1) q fun v x ρ1 H1 F1 a1 b1 g d r re pp => ?_
  have r2 : R c H1 (Uni F1 a1) (frz v) x Emp := R.frz (R.up Sub.l r) fun q z => .inr z
  have st : Stp H1 F1 (Uni a1 b1) H1 (Uni F1 a1) (Uni Emp b1) := Stp.raise1.drop (Sub.uni Sub.emp (Sub.refl _))
  exact pp x H1 _ Emp b1 st ((Good.raise1 g d).sub (Sub.uni Sub.emp (Sub.refl _))) Dis.empl r2 (RE.up Sub.l re)
theorem Ds.suite (h : Ds X c) (a : Addr) (pn : List (Addr × Obj)) : Ds (X.suite a pn) c := ⟨h.K, h.un, h.nd, h.gd⟩
end
end Tr
set_option autoImplicit false
namespace Tr
open PySem (Str)
abbrev Tb := List (Nat × Nat)
def fldv (tb : Tb) : PV → Option PV
  | .ins _ k vs => (tb.lookup k).bind fun j => vs[j]?
  | _ => none
def pj {β : Type} (tb : Tb) (k : PV → Option β) : PV → Option β := fun v => (fldv tb v).bind k
def pjl {β : Type} (tb : Tb) (k : PV → PV → Option β) : PV → PV → Option β := fun v w => (fldv tb v).bind fun u => k u w
def pjr {β : Type} (tb : Tb) (k : PV → PV → Option β) : PV → PV → Option β := fun v w => (fldv tb w).bind fun u => k v u
def pj2 {β : Type} (tb tc : Tb) (k : PV → PV → Option β) : PV → PV → Option β := fun v w => (fldv tb v).bind fun u => (fldv tc w).bind fun z => k u z
def putFld (j : Nat) (v : PV) (vs : List PV) : Option (List PV) := if j < vs.length then some (vs.set j v) else if j = vs.length then some (vs ++ [v]) else none
def sPutF (i : Nat) (tb : Tb) (f : EF) : SF := fun ρ => sOf (f ρ) fun v ρ1 => match slot ρ1 i with
  | some (.ins true k vs) => match (tb.lookup k).bind fun j => putFld j v vs with
    | some ws => .nx (ρ1.set i (some (.ins true k ws)))
    | none => .bad
  | _ => .bad
def made {α : Type} (r : FR) (k : PV → Env → Res α) (g : List PV → Env) : Res α := match r with
  | .ok .non (v :: ws) => k v (g ws)
  | .er e (_ :: ws) => .er e (g ws)
  | _ => .bad
def eMake (k : Nat) (sem : FF) (os : List Opd) (ds : List PV) : EF := fun ρ => (goAll os ρ).bind fun ts ρ1 => match takeAll os ts ρ1 with
  | none => .bad
  | some (vs, ρ2) => made (sem (.ins true k [] :: (vs ++ ds))) .ok fun ws => giveAll os vs ws ρ2
abbrev MT := List (Nat × FF)
def tagOf (v : Option PV) : Option Nat := match v with
  | some (.ins _ k _) => some k
  | _ => none
def recv (mt : MT) (v : Option PV) : Option FF := (tagOf v).bind fun k => mt.lookup k
def eMeth (mt : MT) (o : Opd) (os : List Opd) (ds : List PV) : EF := fun ρ => (o.go ρ).bindB fun t ρ1 => match recv mt (o.get t ρ1) with
  | none => .bad
  | some sem => (goAll os ρ1).bind fun ts ρ2 => match takeAll (o :: os) (t :: ts) ρ2 with
    | none => .bad
    | some (vs, ρ3) => back (sem (vs ++ ds)) .ok fun ws => giveAll (o :: os) vs ws ρ3
def disp (mt : MT) : FF := fun as => match recv mt as.head? with
  | none => .bad
  | some sem => match sem as with
    | .er _ _ => .bad
    | r => r
def tyS : PV → Option String
  | .non => some "NoneType" | .bl _ => some "bool" | .int _ => some "int" | .str _ => some "str"
  | .tup _ => some "tuple" | .lst _ _ => some "list" | .dct _ _ _ => some "dict"
  | _ => none
def othOk (tg : List Nat) (v : PV) : Bool := match v with
  | .ins _ k _ => tg.contains k
  | v => (tyS v).isSome
def tEqI (tg : List Nat) (mt : MT) (a b : Opd) : TF := fun ρ => (goAll [a, b] ρ).bind fun ts ρ1 => match takeAll [a, b] ts ρ1 with
  | some ([v, w], ρ2) => if othOk tg w = true then (match disp mt [v, w] with
    | .ok (.bl r) ws => .ok r (giveAll [a, b] [v, w] ws ρ2)
    | _ => .bad) else .bad
  | _ => .bad
def dispX (mt : MT) : FF := fun as => match recv mt as.head? with
  | none => .bad
  | some sem => sem as
def zipP : PV → PV → Option (List PV)
  | .tup xs, .tup ys => if fro (.tup xs) && fro (.tup ys) then some (List.zipWith (fun x y => .tup [x, y]) xs ys) else none
  | _, _ => none
def iZip (a b : Opd) : IF := op2 a b zipP
def isA2 (T U : Ty) (v : PV) : Option Bool := (isA T v).bind fun a => (isA U v).bind fun b => some (a || b)
def sIdx (x : Str) : List Str → Option Nat
  | [] => none
  | y :: ys => if y = x then some 0 else (sIdx x ys).map (· + 1)
def bIdx : PV → PV → Option PV
  | .tup xs, .str x => (allS xs).bind fun ss => (sIdx x ss).map fun j => .int (j : Nat)
  | _, _ => none
def isTup : PV → Bool
  | .tup _ => true
  | _ => false
def op2g {β : Type} (g : PV → Bool) (a b : Opd) (k : PV → PV → Option β) (ρ : Env) : Res β :=
  (a.go ρ).bind fun t ρ1 => if (a.get t ρ1).any g = true then (b.go ρ1).bind fun u ρ2 => .of ((a.get t ρ2).bind fun v => (b.get u ρ2).bind fun w => k v w) ρ2 else .bad
def eIdx (a b : Opd) : EF := op2g isTup a b bIdx
end Tr
namespace Tr
open PySem PySem.Spec PyProof.Rows L2
end Tr
namespace Tr
open PySem PySem.Spec PyProof.Rows L2
section
variable {X : Cx} {c : RC} {W : WX} {fx : Nat → Bool} {kk j n : Nat} {f fI C : Addr} {fd : FuncData} {ps ks : List Str} {sem : FF} {dvs : List V} {dps : List PV} {ds : List Value} {x m : Str} {p pos apos : Pos} {e o : Expr} {es : List Expr} {os : List Opd} {oo : Opd} {ta : TE} {t : TA} {sp : Sp}
structure MOk (X : Cx) (c : RC) (j : Nat) (m : Str) (n : Nat) (dps : List PV) (k : Nat) (sem : FF) : Prop where
  ok : ∃ (kk : Nat) (f : Addr) (fd : FuncData) (ps : List Str) (ds : List Value) (dvs : List V), Cls X.K (c.cA k) ∧ Meth X.K (c.cA k) m f ∧ FnG X.prog X.w X.K X.mg X.base (L2.CX X.prog X.w) kk f fd ps (spF c n sem) ∧ kk ≤ j ∧ Binds X.K fd ps ds ∧ Vals dvs ds ∧ (∀ H F, Rs c H F dps dvs Emp) ∧ m ∉ c.cF k
end
end Tr
namespace Tr
open PySem PySem.Spec PyProof.Rows L2
section
variable {X : Cx} {c : RC} {W : WX} {k : Nat} {o : Expr} {oo : Opd} {pos p p2 : Pos} {x : Str} {tg ks : List Nat}
def isaK (tg ks : List Nat) : PV → Option Bool
  | .ins _ k _ => if tg.contains k then some (ks.contains k) else none
  | v => if (tyS v).isSome then some false else none
end
end Tr
namespace Tr
open PySem PySem.Spec PyProof.Rows L2
structure EqOk (X : Cx) (c : RC) (j : Nat) (tg : List Nat) (k : Nat) (sem : FF) : Prop where
  ok : ∃ (kk : Nat) (f : Addr) (fd : FuncData) (ps : List Str), PySem.W.findIn X.K (.ref (c.cA k)) "__eq__" = some (some (.ref f)) ∧ PySem.W.isFn X.K (.ref f) = true ∧ FnG X.prog X.w X.K X.mg X.base (L2.CX X.prog X.w) kk f fd ps (spF c 2 sem) ∧ kk ≤ j ∧ Binds X.K fd ps [] ∧
    ∀ k', tg.contains k' = true → PySem.W.notFirst X.K (c.cA k) (.ref (c.cA k')) = true
end Tr
namespace Tr
open PySem PySem.Spec PyProof.Rows L2
end Tr
namespace Tr
open PySem PySem.Spec PyProof.Rows L2
end Tr
namespace Tr
open PySem PySem.Spec PyProof.Rows L2
theorem five {z TI TO i1 i2 c : Addr} {M : Addr → Prop} (hc : c ∈ [z, TI, TO, i1, i2]) (m1 : M z) (m2 : M TI) (m3 : M TO) (m4 : M i1) (m5 : M i2) : M c := by
  simp only [List.mem_cons, List.not_mem_nil, or_false] at hc
  rcases hc with rfl | rfl | rfl | rfl | rfl <;> assumption
end Tr
namespace Tr
open PySem PySem.Spec PyProof.Rows L2
section
variable {X : Cx} {c : RC} {W : WX} {a b : Expr} {oa ob : Opd} {pos p tpos : Pos} {elts : List Expr} {kk : Nat}
def FzLs (c : RC) (p : Addr) (xs : List PV) (H : Hp) (F : AS) : Prop := ∃ vs, FzL H F p vs ∧ Rs c H F xs vs Emp
def FzTs (c : RC) (p : Addr) (xs : List PV) (H : Hp) (F : AS) : Prop := ∃ vs, SqT c.K H p vs ∧ Rs c H F xs vs Emp
theorem FzLs.step {q : Addr} {xs : List PV} {H H' : Hp} {F A F' A' : AS} (h : FzLs c q xs H F) (g : Good H F A) (s : Stp H F A H' F' A') : FzLs c q xs H' F' := by
  obtain ⟨vs, h1, h2⟩ := h; exact ⟨vs, h1.step g s, h2.step g s Dis.empl⟩
theorem FzTs.step {q : Addr} {xs : List PV} {H H' : Hp} {F A F' A' : AS} (h : FzTs c q xs H F) (g : Good H F A) (s : Stp H F A H' F' A') : FzTs c q xs H' F' := by
  obtain ⟨vs, h1, h2⟩ := h; exact ⟨vs, SqT.step g s h1, h2.step g s Dis.empl⟩
theorem zip_at {xs ys : List PV} {i : Nat} {z : PV} (h : (List.zipWith (fun x y => PV.tup [x, y]) xs ys)[i]? = some z) : ∃ x y, xs[i]? = some x ∧ ys[i]? = some y ∧ z = .tup [x, y] := by
  rw [List.getElem?_zipWith] at h
  cases q1 : xs[i]? with
  | none => rw [q1] at h; cases h
  | some x =>
    cases q2 : ys[i]? with
    | none => rw [q1, q2] at h; cases h
    | some y => rw [q1, q2] at h; cases h; exact ⟨x, y, rfl, rfl, rfl⟩
theorem pair_new {H : Hp} {F : AS} {T : Addr} {o : Obj} {x y : PV} {v w : V} (g : Good H F Emp) (hT : H T = none) (hb : TB o) (r1 : R c H F x v Emp) (r2 : R c H F y w Emp) : Stp H F Emp (upd H T (.frz o (.tup [v, w]))) F Emp ∧ R c (upd H T (.frz o (.tup [v, w]))) F (.tup [x, y]) (.ref T) Emp := by
  have s : Stp H F Emp (upd H T (.frz o (.tup [v, w]))) F Emp := Stp.newT hT
  exact ⟨s, T, [v, w], rfl, ⟨SqB.of upd_same hb, (by decide : 2 ≤ big)⟩, v, [w], Emp, Emp, rfl, Sub.emp, Sub.emp, Dis.empl, r1.step g s Dis.empl, w, [], Emp, Emp, rfl, Sub.emp, Sub.emp, Dis.empl, r2.step g s Dis.empl, rfl⟩
end
section
variable {X : Cx} {c : RC} {W : WX} {o : Expr} {oo : Opd} {pos p p2 p3 tp : Pos} {tk : _} {x1 x2 : Str}
theorem isA_ty {T : Ty} {v : PV} {z : Bool} (h : isA T v = some z) : ∃ n, tyP v = some n := by
  cases v <;> first | exact ⟨_, rfl⟩ | (cases T <;> cases h)
theorem isA_kit {K : PySem.W.Frag} {T : Ty} {v : PV} {z : Bool} {n : String} (e : tyP v = some n) (h : isA T v = some z) : PySem.W.kitOne K (.type n) (.type (tyN T)) = some z := by
  refine kit_ty ?_
  cases v <;> cases e <;> cases T <;> cases h <;> decide +kernel
theorem e_isa2 (D : Ds X c) (T U : Ty) (hm : X.mg "isinstance" = none) (hg : Gl X "isinstance") (hm1 : X.mg x1 = none) (hg1 : Gl X x1) (hb1 : bootBuiltins x1 = some (.type (tyN T))) (hm2 : X.mg x2 = none) (hg2 : Gl X x2) (hb2 : bootBuiltins x2 = some (.type (tyN U)))
    (hn1 : x1 ≠ "__name__") (hd1 : (x1 == ("__debug__" : Str)) = false) (hn2 : x2 ≠ "__name__") (hd2 : (x2 == ("__debug__" : Str)) = false) (ho : SO X c W o oo)
    (st : starEach [o, .Tuple [.Name x1 p2, .Name x2 p3] tk tp] X.env = (false, eval o X.env) :: starEach [.Tuple [.Name x1 p2, .Name x2 p3] tk tp] X.env := by rfl)
    (st2 : starEach [.Tuple [.Name x1 p2, .Name x2 p3] tk tp] X.env = (false, eval (.Tuple [.Name x1 p2, .Name x2 p3] tk tp) X.env) :: starEach [] X.env := by rfl) (he : (backTo pos (starEach [.Tuple [.Name x1 p2, .Name x2 p3] tk tp] X.env)).any (·.1) = false := by rfl)
    (s1 : starEach [.Name x1 p2, .Name x2 p3] X.env = (false, eval (.Name x1 p2) X.env) :: starEach [.Name x2 p3] X.env := by rfl) (s2 : starEach [.Name x2 p3] X.env = (false, eval (.Name x2 p3) X.env) :: starEach [] X.env := by rfl) :
    SE X c W (.Call (.Name "isinstance" p) [o, .Tuple [.Name x1 p2, .Name x2 p3] tk tp] [] pos) (eT (tPV (isA2 T U) oo)) := by
  have e1 : PE X (.Name x1 p2) (tC (.ty (tyN T))) := pe_bltn hg1 hm1 hb1 rfl hn1 hd1
  have e2 : PE X (.Name x2 p3) (tC (.ty (tyN U))) := pe_bltn hg2 hm2 hb2 rfl hn2 hd2
  have pt := pe_tup (x1 := tk) (pos := tp) (pa_cons e1 (pa_cons e2 pa_nil s2) s1)
  refine PE.weak (pe_callB call_isiT hg hm (by decide +kernel) (pa_cons ho (pa_cons pt pa_nil st2) st) (by decide) (by decide) st he) fun σ H Q q => ?_
  refine tO.one (eT_bl q) fun v x y ρ1 H1 F1 A1 bb g sb e ⟨_, _, r⟩ kq pp => ?_
  refine ⟨(by decide : 2 ≤ sizeLine), fun t ht => ?_⟩
  unfold isA2 at kq
  cases q1 : isA T v with
  | none => rw [q1] at kq; cases kq
  | some b1 =>
    cases q2 : isA U v with
    | none => rw [q1, q2] at kq; cases kq
    | some b2 =>
      rw [q1, q2] at kq
      cases kq
      obtain ⟨n, hn⟩ := isA_ty q1
      have stp : Stp H1 F1 Emp (upd H1 t (.tup [.ty (tyN T), .ty (tyN U)])) F1 Emp := Stp.newT ht
      have gE : Good H1 F1 Emp := g.sub Sub.emp
      have r2 := r.step gE stp Dis.empr
      refine ⟨_, t, _, .type n, [.type (tyN T), .type (tyN U)], b1 || b2, rfl, upd_same, .cons (.ty _) (.cons (.ty _) .nil), by rw [D.K]; exact tyx_of r2 hn, ?_, ?_⟩
      · unfold PySem.W.kitAny
        rw [isA_kit hn q1]
        cases b1 with
        | true => rfl
        | false =>
          show PySem.W.kitAny X.K (.type n) [.type (tyN U)] = some b2
          unfold PySem.W.kitAny
          rw [isA_kit hn q2]
          cases b2 <;> rfl
      · exact pp _ _ F1 Emp bb ((Stp.newT ht).drop (Sub.uni Sub.emp sb)) ((g.newT ht).sub (Sub.uni Sub.emp sb)) Dis.empl rfl (RE.step (g.sub Sub.emp) stp e Dis.empr)
end
end Tr
namespace Tr
open PySem PySem.Spec PyProof.Rows L2
end Tr
namespace Tr
open PySem PySem.Spec L2
end Tr
namespace Tr
open PySem PySem.Spec PyProof.Rows L2
end Tr
namespace Tr
open PySem PySem.Spec PyProof.Rows L2
section
variable {X : Cx} {c : RC} {W : WX} {k : Nat} {a b : Expr} {oa ob : Opd} {ta : TE} {p p2 q pos ap : Pos}
def fIntS : PV → Option PV
  | .str a => if decide (a.length ≤ 640) then (PySem.intText? a).map .int else none
  | .int i => some (.int i)
  | .bl b => some (.int (b2i b))
  | _ => none
theorem call_intA : CallR X (.type "int") (fun xs H Q => ((∃ i, xs = [.int i] ∧ Q (.int i) H) ∨ ∃ k, xs = [.bl k] ∧ Q (.int (if k then 1 else 0)) H) ∨ ∃ a n, xs = [.str a] ∧ PySem.intText? a = some n ∧ a.length ≤ 640 ∧ Q (.int n) H) := call_int1.or call_int_str
theorem k_intS : K1 c (fun v => (fun xs H Q => ((∃ i, xs = [.int i] ∧ Q (.int i) H) ∨ ∃ k, xs = [.bl k] ∧ Q (.int (if k then 1 else 0)) H) ∨ ∃ a n, xs = [.str a] ∧ PySem.intText? a = some n ∧ a.length ≤ 640 ∧ Q (.int n) H : List V → Hp → VK → Prop) [v]) fIntS := by
  intro v z x H F Q A g r k q
  cases v with
  | int i => exact .inl (k_int (c := c) (.int i) z x H F Q A g r k q)
  | bl i => exact .inl (k_int (c := c) (.bl i) z x H F Q A g r k q)
  | str a =>
    obtain ⟨rfl, _⟩ := r
    simp only [fIntS] at k
    split at k
    · rename_i h
      cases e : PySem.intText? a with
      | none => rw [e] at k; cases k
      | some n => rw [e] at k; cases k; exact .inr ⟨a, n, rfl, e, by simpa using h, q.now g rfl⟩
    · cases k
  | _ => cases k
theorem e_intS (D : Ds X c) (hm : X.mg "int" = none) (hg : Gl X "int") (ha : SO X c W a oa) (st : starEach [a] X.env = (false, eval a X.env) :: starEach [] X.env := by rfl) (he : (backTo pos (starEach [] X.env)).any (·.1) = false := by rfl) : SE X c W (.Call (.Name "int" p) [a] [] pos) (eP1 fIntS oa) := se_ty1 call_intA k_intS hg hm (by decide +kernel) ha (by decide) (by decide) st he
end
end Tr
set_option autoImplicit false
namespace Tr.Ev
open Tr
open PySem (Str)
variable {ρ ρ' : Env} {e : PExc} {v w : PV}
@[simp] theorem slot_zero {a : Option PV} : slot (a :: ρ) 0 = a := by cases a <;> rfl
@[simp] theorem slot_succ {a : Option PV} {n : Nat} : slot (a :: ρ) (n + 1) = slot ρ n := (rfl)
def gN (ρ : Env) (o : Option PV) : Res (Option PV) := match o with
  | some _ => .ok none ρ
  | none => .bad
def gE (r : Res PV) : Res (Option PV) := match r with
  | .ok v ρ => .ok (some v) ρ
  | .er e ρ => .er e ρ
  | .bad => .bad
@[simp] theorem go_nm {i : Nat} : Opd.go (.nm i) ρ = gN ρ (slot ρ i) := (rfl)
@[simp] theorem gN_some : gN ρ (some v) = .ok none ρ := (rfl)
@[simp] theorem gN_none : gN ρ none = .bad := (rfl)
@[simp] theorem go_ev {f : EF} : Opd.go (.ev f) ρ = gE (f ρ) := by
  show (f ρ).bind (fun v ρ1 => .ok (some v) ρ1) = gE (f ρ)
  cases f ρ <;> rfl
@[simp] theorem gE_ok : gE (.ok v ρ) = .ok (some v) ρ := (rfl)
@[simp] theorem gE_er : gE (.er e ρ) = .er e ρ := (rfl)
@[simp] theorem gE_bad : gE .bad = .bad := (rfl)
@[simp] theorem get_nm {i : Nat} {t : Option PV} : Opd.get (.nm i) t ρ = slot ρ i := (rfl)
@[simp] theorem get_ev {f : EF} {t : Option PV} : Opd.get (.ev f) t ρ = t := (rfl)
section
variable {β : Type} {a b c : Opd} {k : PV → Option β} {k2 : PV → PV → Option β} {k3 : PV → PV → PV → Option β} {t u : Option PV}
def o1 (a : Opd) (k : PV → Option β) : Res (Option PV) → Res β
  | .ok t ρ => .of ((a.get t ρ).bind k) ρ
  | .er e ρ => .er e ρ
  | .bad => .bad
theorem op1_eq : op1 a k ρ = o1 a k (a.go ρ) := by unfold op1 o1; cases a.go ρ <;> rfl
@[simp] theorem o1_ok : o1 a k (.ok t ρ) = .of ((a.get t ρ).bind k) ρ := (rfl)
@[simp] theorem o1_er : o1 a k (.er e ρ) = .er e ρ := (rfl)
@[simp] theorem o1_bad : o1 a k .bad = .bad := (rfl)
def o2b (a b : Opd) (k : PV → PV → Option β) (t : Option PV) : Res (Option PV) → Res β
  | .ok u ρ => .of ((a.get t ρ).bind fun v => (b.get u ρ).bind fun w => k v w) ρ
  | .er e ρ => .er e ρ
  | .bad => .bad
def o2 (a b : Opd) (k : PV → PV → Option β) : Res (Option PV) → Res β
  | .ok t ρ => o2b a b k t (b.go ρ)
  | .er e ρ => .er e ρ
  | .bad => .bad
theorem op2_eq : op2 a b k2 ρ = o2 a b k2 (a.go ρ) := by
  unfold op2 o2
  cases a.go ρ with
  | ok t ρ1 => simp only [Res.bind_ok]; unfold o2b; cases b.go ρ1 <;> rfl
  | er => rfl
  | bad => rfl
@[simp] theorem o2_ok : o2 a b k2 (.ok t ρ) = o2b a b k2 t (b.go ρ) := (rfl)
@[simp] theorem o2_er : o2 a b k2 (.er e ρ) = .er e ρ := (rfl)
@[simp] theorem o2_bad : o2 a b k2 .bad = .bad := (rfl)
@[simp] theorem o2b_ok : o2b a b k2 t (.ok u ρ) = .of ((a.get t ρ).bind fun v => (b.get u ρ).bind fun w => k2 v w) ρ := (rfl)
@[simp] theorem o2b_er : o2b a b k2 t (.er e ρ) = .er e ρ := (rfl)
@[simp] theorem o2b_bad : o2b a b k2 t .bad = .bad := (rfl)
end
@[simp] theorem eP1_eq {k : PV → Option PV} {a : Opd} : eP1 k a ρ = o1 a k (a.go ρ) := op1_eq
@[simp] theorem tPV_eq {k : PV → Option Bool} {a : Opd} : tPV k a ρ = o1 a k (a.go ρ) := op1_eq
@[simp] theorem eP2_eq {k : PV → PV → Option PV} {a b : Opd} : eP2 k a b ρ = o2 a b k (a.go ρ) := op2_eq
@[simp] theorem tPV2_eq {k : PV → PV → Option Bool} {a b : Opd} : tPV2 k a b ρ = o2 a b k (a.go ρ) := op2_eq
section
variable {k l : PV → PV → Option Bool} {a b d : Opd} {t u x : Option PV}
def ch3 (b d : Opd) (l : PV → PV → Option Bool) (u : Option PV) : Res (Option PV) → Res Bool
  | .ok x ρ => .of ((b.get u ρ).bind fun w => (d.get x ρ).bind fun z => l w z) ρ
  | .er e ρ => .er e ρ
  | .bad => .bad
def ch2 (b d : Opd) (l : PV → PV → Option Bool) (u : Option PV) : Res Bool → Res Bool
  | .ok true ρ => ch3 b d l u (d.go ρ)
  | .ok false ρ => .ok false ρ
  | .er e ρ => .er e ρ
  | .bad => .bad
def ch1 (a b d : Opd) (k l : PV → PV → Option Bool) (t : Option PV) : Res (Option PV) → Res Bool
  | .ok u ρ => ch2 b d l u (.of ((a.get t ρ).bind fun v => (b.get u ρ).bind fun w => k v w) ρ)
  | .er e ρ => .er e ρ
  | .bad => .bad
def ch0 (a b d : Opd) (k l : PV → PV → Option Bool) : Res (Option PV) → Res Bool
  | .ok t ρ => ch1 a b d k l t (b.go ρ)
  | .er e ρ => .er e ρ
  | .bad => .bad
@[simp] theorem tCh_eq : tCh k l a b d ρ = ch0 a b d k l (a.go ρ) := by
  unfold tCh ch0
  cases a.go ρ with
  | ok t ρ1 =>
    simp only [Res.bind_ok]
    unfold ch1
    cases b.go ρ1 with
    | ok u ρ2 =>
      simp only [Res.bind_ok]
      unfold ch2
      cases q : (Res.of ((a.get t ρ2).bind fun v => (b.get u ρ2).bind fun w => k v w) ρ2 : Res Bool) with
      | ok r ρ3 =>
        cases r with
        | true => simp only [Res.bind_ok, if_true]; unfold ch3; cases d.go ρ3 <;> rfl
        | false => rfl
      | er => rfl
      | bad => rfl
    | er => rfl
    | bad => rfl
  | er => rfl
  | bad => rfl
@[simp] theorem ch0_ok : ch0 a b d k l (.ok t ρ) = ch1 a b d k l t (b.go ρ) := (rfl)
@[simp] theorem ch1_ok : ch1 a b d k l t (.ok u ρ) = ch2 b d l u (.of ((a.get t ρ).bind fun v => (b.get u ρ).bind fun w => k v w) ρ) := (rfl)
@[simp] theorem ch2_t : ch2 b d l u (.ok true ρ) = ch3 b d l u (d.go ρ) := (rfl)
@[simp] theorem ch2_f : ch2 b d l u (.ok false ρ) = .ok false ρ := (rfl)
@[simp] theorem ch3_ok : ch3 b d l u (.ok x ρ) = .of ((b.get u ρ).bind fun w => (d.get x ρ).bind fun z => l w z) ρ := (rfl)
end
@[simp] theorem eC_eq : eC v ρ = .ok v ρ := (rfl)
def nmS (i : Nat) (ρ : Env) : Option PV → Res PV
  | some v => .ok (frz v) (ρ.set i (some (frz v)))
  | none => .bad
def mvS (i : Nat) (ρ : Env) : Option PV → Res PV
  | some v => .ok v (ρ.set i none)
  | none => .bad
@[simp] theorem eNm_eq {i : Nat} : eNm i ρ = nmS i ρ (slot ρ i) := by unfold eNm nmS; cases slot ρ i <;> rfl
@[simp] theorem eMv_eq {i : Nat} : eMv i ρ = mvS i ρ (slot ρ i) := by unfold eMv mvS; cases slot ρ i <;> rfl
@[simp] theorem nmS_some {i : Nat} : nmS i ρ (some v) = .ok (frz v) (ρ.set i (some (frz v))) := (rfl)
@[simp] theorem mvS_some {i : Nat} : mvS i ρ (some v) = .ok v (ρ.set i none) := (rfl)
def ac2 (v : PV) : Res (List PV) → Res (List PV)
  | .ok vs ρ => .ok (v :: vs) ρ
  | .er e ρ => .er e ρ
  | .bad => .bad
def ac1 (g : AF) : Res PV → Res (List PV)
  | .ok v ρ => ac2 v (g ρ)
  | .er e ρ => .er e ρ
  | .bad => .bad
@[simp] theorem aNil_eq : aNil ρ = .ok [] ρ := (rfl)
@[simp] theorem aCons_eq {f : EF} {g : AF} : aCons f g ρ = ac1 g (f ρ) := by
  unfold aCons ac1
  cases f ρ with
  | ok v ρ1 => simp only [Res.bind_ok]; unfold ac2; cases g ρ1 <;> rfl
  | er => rfl
  | bad => rfl
@[simp] theorem ac1_ok {g : AF} : ac1 g (.ok v ρ) = ac2 v (g ρ) := (rfl)
@[simp] theorem ac2_ok {vs : List PV} : ac2 v (.ok vs ρ) = .ok (v :: vs) ρ := (rfl)
def mapR {α β : Type} (f : α → β) : Res α → Res β
  | .ok a ρ => .ok (f a) ρ
  | .er e ρ => .er e ρ
  | .bad => .bad
@[simp] theorem mapR_ok {α β : Type} {f : α → β} {a : α} : mapR f (.ok a ρ) = .ok (f a) ρ := (rfl)
@[simp] theorem eTup_eq {g : AF} : eTup g ρ = mapR PV.tup (g ρ) := by unfold eTup mapR; cases g ρ <;> rfl
@[simp] theorem eLst_eq {g : AF} : eLst g ρ = mapR (PV.lst true) (g ρ) := by unfold eLst mapR; cases g ρ <;> rfl
@[simp] theorem eT_eq {t : TF} : eT t ρ = mapR PV.bl (t ρ) := by unfold eT mapR; cases t ρ <;> rfl
@[simp] theorem tNot_eq {t : TF} : tNot t ρ = mapR (fun b => !b) (t ρ) := by unfold tNot mapR; cases t ρ <;> rfl
def unB : Res PV → Res Bool
  | .ok (.bl b) ρ => .ok b ρ
  | .ok _ _ => .bad
  | .er e ρ => .er e ρ
  | .bad => .bad
@[simp] theorem tE_eq {f : EF} : tE f ρ = unB (f ρ) := by
  unfold tE unB
  cases f ρ with
  | ok v ρ1 => cases v <;> rfl
  | er => rfl
  | bad => rfl
@[simp] theorem unB_ok {b : Bool} : unB (.ok (.bl b) ρ) = .ok b ρ := (rfl)
def andR (u : TF) : Res Bool → Res Bool
  | .ok b ρ => if b = true then u ρ else .ok false ρ
  | .er e ρ => .er e ρ
  | .bad => .bad
def orR (u : TF) : Res Bool → Res Bool
  | .ok b ρ => if b = true then .ok true ρ else u ρ
  | .er e ρ => .er e ρ
  | .bad => .bad
@[simp] theorem tAnd_eq {t u : TF} : tAnd t u ρ = andR u (t ρ) := by unfold tAnd andR; cases t ρ <;> rfl
@[simp] theorem tOr_eq {t u : TF} : tOr t u ρ = orR u (t ρ) := by unfold tOr orR; cases t ρ <;> rfl
@[simp] theorem andR_ok {u : TF} {b : Bool} : andR u (.ok b ρ) = if b = true then u ρ else .ok false ρ := (rfl)
@[simp] theorem orR_ok {u : TF} {b : Bool} : orR u (.ok b ρ) = if b = true then .ok true ρ else u ρ := (rfl)
def ifR {α : Type} (f g : Env → Res α) : Res Bool → Res α
  | .ok b ρ => if b = true then f ρ else g ρ
  | .er e ρ => .er e ρ
  | .bad => .bad
@[simp] theorem eIf_eq {t : TF} {f g : EF} : eIf t f g ρ = ifR f g (t ρ) := by unfold eIf ifR; cases t ρ <;> rfl
@[simp] theorem ifR_ok {α : Type} {f g : Env → Res α} {b : Bool} : ifR f g (.ok b ρ) = if b = true then f ρ else g ρ := (rfl)
def eaR (g : EF) : Res Bool → Res PV
  | .ok b ρ => if b = true then g ρ else .ok (.bl false) ρ
  | .er e ρ => .er e ρ
  | .bad => .bad
def eoR (g : EF) : Res Bool → Res PV
  | .ok b ρ => if b = true then .ok (.bl true) ρ else g ρ
  | .er e ρ => .er e ρ
  | .bad => .bad
@[simp] theorem eaR_ok {g : EF} {b : Bool} : eaR g (.ok b ρ) = if b = true then g ρ else .ok (.bl false) ρ := (rfl)
@[simp] theorem eoR_ok {g : EF} {b : Bool} : eoR g (.ok b ρ) = if b = true then .ok (.bl true) ρ else g ρ := (rfl)
def bdR : Res PV → Res (Option Int)
  | .ok (.int i) ρ => .ok (some i) ρ
  | .ok _ _ => .bad
  | .er e ρ => .er e ρ
  | .bad => .bad
@[simp] theorem goB_none : goB none ρ = .ok none ρ := (rfl)
@[simp] theorem goB_some {f : EF} : goB (some f) ρ = bdR (f ρ) := by
  unfold goB bdR
  cases h : f ρ with
  | ok v ρ1 => simp only [h, Res.bind_ok]; cases v <;> rfl
  | er => simp only [h]; rfl
  | bad => simp only [h]; rfl
@[simp] theorem bdR_ok {i : Int} : bdR (.ok (.int i) ρ) = .ok (some i) ρ := (rfl)
def sl3 (a : Opd) (t : Option PV) (i : Option Int) : Res (Option Int) → Res PV
  | .ok j ρ => .of ((a.get t ρ).bind fun v => sl v i j) ρ
  | .er e ρ => .er e ρ
  | .bad => .bad
def sl2 (a : Opd) (hi : Option EF) (t : Option PV) : Res (Option Int) → Res PV
  | .ok i ρ => sl3 a t i (goB hi ρ)
  | .er e ρ => .er e ρ
  | .bad => .bad
def sl1 (a : Opd) (lo hi : Option EF) : Res (Option PV) → Res PV
  | .ok t ρ => sl2 a hi t (goB lo ρ)
  | .er e ρ => .er e ρ
  | .bad => .bad
@[simp] theorem eSl_eq {a : Opd} {lo hi : Option EF} : eSl a lo hi ρ = sl1 a lo hi (a.go ρ) := by
  unfold eSl sl1
  cases a.go ρ with
  | ok t ρ1 =>
    simp only [Res.bind_ok]; unfold sl2
    cases goB lo ρ1 with
    | ok i ρ2 => simp only [Res.bind_ok]; unfold sl3; cases goB hi ρ2 <;> rfl
    | er => rfl
    | bad => rfl
  | er => rfl
  | bad => rfl
@[simp] theorem sl1_ok {a : Opd} {lo hi : Option EF} {t : Option PV} : sl1 a lo hi (.ok t ρ) = sl2 a hi t (goB lo ρ) := (rfl)
@[simp] theorem sl2_ok {a : Opd} {hi : Option EF} {t : Option PV} {i : Option Int} : sl2 a hi t (.ok i ρ) = sl3 a t i (goB hi ρ) := (rfl)
@[simp] theorem sl3_ok {a : Opd} {t : Option PV} {i j : Option Int} : sl3 a t i (.ok j ρ) = .of ((a.get t ρ).bind fun v => sl v i j) ρ := (rfl)
def cl2 (sem : FF) (os : List Opd) (ds : List PV) : Option (List PV × Env) → Res PV
  | some (vs, ρ) => back (sem (vs ++ ds)) .ok fun ws => giveAll os vs ws ρ
  | none => .bad
def cl1 (sem : FF) (os : List Opd) (ds : List PV) : Res (List (Option PV)) → Res PV
  | .ok ts ρ => cl2 sem os ds (takeAll os ts ρ)
  | .er e ρ => .er e ρ
  | .bad => .bad
@[simp] theorem eCall_eq {sem : FF} {os : List Opd} {ds : List PV} : eCall sem os ds ρ = cl1 sem os ds (goAll os ρ) := by
  unfold eCall cl1
  cases goAll os ρ with
  | ok ts ρ1 => simp only [Res.bind_ok]; unfold cl2; cases h : takeAll os ts ρ1 <;> rfl
  | er => rfl
  | bad => rfl
@[simp] theorem cl1_ok {sem : FF} {os : List Opd} {ds : List PV} {ts : List (Option PV)} : cl1 sem os ds (.ok ts ρ) = cl2 sem os ds (takeAll os ts ρ) := (rfl)
@[simp] theorem cl2_some {sem : FF} {os : List Opd} {ds vs : List PV} : cl2 sem os ds (some (vs, ρ)) = back (sem (vs ++ ds)) .ok fun ws => giveAll os vs ws ρ := (rfl)
def ga2 (t : Option PV) : Res (List (Option PV)) → Res (List (Option PV))
  | .ok ts ρ => .ok (t :: ts) ρ
  | .er e ρ => .er e ρ
  | .bad => .bad
def ga1 (os : List Opd) : Res (Option PV) → Res (List (Option PV))
  | .ok t ρ => ga2 t (goAll os ρ)
  | .er e ρ => .er e ρ
  | .bad => .bad
@[simp] theorem goAll_nil : goAll [] ρ = .ok [] ρ := (rfl)
@[simp] theorem goAll_cons {o : Opd} {os : List Opd} : goAll (o :: os) ρ = ga1 os (o.go ρ) := by
  show (o.go ρ).bind _ = _
  unfold ga1
  cases o.go ρ with
  | ok t ρ1 => simp only [Res.bind_ok]; unfold ga2; cases goAll os ρ1 <;> rfl
  | er => rfl
  | bad => rfl
@[simp] theorem ga1_ok {os : List Opd} {t : Option PV} : ga1 os (.ok t ρ) = ga2 t (goAll os ρ) := (rfl)
@[simp] theorem ga2_ok {t : Option PV} {ts : List (Option PV)} : ga2 t (.ok ts ρ) = .ok (t :: ts) ρ := (rfl)
def tk3 (v : PV) : Option (List PV × Env) → Option (List PV × Env)
  | some (vs, ρ) => some (v :: vs, ρ)
  | none => none
def tk2 (os : List Opd) (ts : List (Option PV)) : Option (PV × Env) → Option (List PV × Env)
  | some (v, ρ) => tk3 v (takeAll os ts ρ)
  | none => none
@[simp] theorem takeAll_nil : takeAll [] [] ρ = some ([], ρ) := (rfl)
@[simp] theorem takeAll_cons {o : Opd} {os : List Opd} {t : Option PV} {ts : List (Option PV)} : takeAll (o :: os) (t :: ts) ρ = tk2 os ts (take1 o t ρ) := by
  rw [takeAll]
  unfold tk2
  cases take1 o t ρ with
  | none => rfl
  | some z => obtain ⟨v, ρ1⟩ := z; simp only; unfold tk3; cases takeAll os ts ρ1 <;> rfl
@[simp] theorem tk2_some {os : List Opd} {ts : List (Option PV)} : tk2 os ts (some (v, ρ)) = tk3 v (takeAll os ts ρ) := (rfl)
@[simp] theorem tk3_some {vs : List PV} : tk3 v (some (vs, ρ)) = some (v :: vs, ρ) := (rfl)
def t1N (i : Nat) (ρ : Env) : Option PV → Option (PV × Env)
  | some v => if fro v = true then some (v, ρ) else some (v, ρ.set i none)
  | none => none
@[simp] theorem take1_nm {i : Nat} {t : Option PV} : take1 (.nm i) t ρ = t1N i ρ (slot ρ i) := by
  show (match slot ρ i with | some v => if fro v = true then some (v, ρ) else some (v, ρ.set i none) | none => none) = _
  cases slot ρ i <;> rfl
@[simp] theorem t1N_some {i : Nat} : t1N i ρ (some v) = if fro v = true then some (v, ρ) else some (v, ρ.set i none) := (rfl)
@[simp] theorem take1_ev {f : EF} : take1 (.ev f) (some v) ρ = some (v, ρ) := (rfl)
@[simp] theorem giveAll_nil {vs ws : List PV} : giveAll [] vs ws ρ = ρ := by cases vs <;> cases ws <;> rfl
@[simp] theorem giveAll_cons {o : Opd} {os : List Opd} {v w : PV} {vs ws : List PV} : giveAll (o :: os) (v :: vs) (w :: ws) ρ = give1 o v w (giveAll os vs ws ρ) := (rfl)
@[simp] theorem give1_nm {i : Nat} : give1 (.nm i) v w ρ = if fro v = true then ρ else ρ.set i (some w) := (rfl)
@[simp] theorem give1_ev {f : EF} : give1 (.ev f) v w ρ = ρ := (rfl)
section
variable {α : Type} {k : PV → Env → Res α} {g : List PV → Env} {as : List PV}
@[simp] theorem back_ok : back (.ok v as) k g = k v (g as) := (rfl)
@[simp] theorem back_er : back (.er e as) k g = .er e (g as) := (rfl)
@[simp] theorem back_bad : back .bad k g = .bad := (rfl)
end
def andThen (u : SF) : SR → SR
  | .nx ρ => u ρ
  | .rt v ρ => .rt v ρ
  | .bk ρ => .bk ρ
  | .ct ρ => .ct ρ
  | .er e ρ => .er e ρ
  | .bad => .bad
@[simp] theorem sSeq_eq {s u : SF} : sSeq s u ρ = andThen u (s ρ) := by unfold sSeq andThen; cases s ρ <;> rfl
section
variable {u : SF}
@[simp] theorem at_nx : andThen u (.nx ρ) = u ρ := (rfl)
@[simp] theorem at_rt : andThen u (.rt v ρ) = .rt v ρ := (rfl)
@[simp] theorem at_bk : andThen u (.bk ρ) = .bk ρ := (rfl)
@[simp] theorem at_ct : andThen u (.ct ρ) = .ct ρ := (rfl)
@[simp] theorem at_er : andThen u (.er e ρ) = .er e ρ := (rfl)
end
@[simp] theorem sNx_eq : sNx ρ = .nx ρ := (rfl)
def doR : Res PV → SR
  | .ok _ ρ => .nx ρ
  | .er e ρ => .er e ρ
  | .bad => .bad
def retR : Res PV → SR
  | .ok v ρ => .rt v ρ
  | .er e ρ => .er e ρ
  | .bad => .bad
def setR (i : Nat) : Res PV → SR
  | .ok v ρ => .nx (ρ.set i (some v))
  | .er e ρ => .er e ρ
  | .bad => .bad
def siR (a b : SF) : Res Bool → SR
  | .ok c ρ => if c = true then a ρ else b ρ
  | .er e ρ => .er e ρ
  | .bad => .bad
@[simp] theorem sDo_eq {f : EF} : sDo f ρ = doR (f ρ) := by unfold sDo doR; cases f ρ <;> rfl
@[simp] theorem sRet_eq {f : EF} : sRet f ρ = retR (f ρ) := by unfold sRet retR; cases f ρ <;> rfl
@[simp] theorem sSet_eq {i : Nat} {f : EF} : sSet i f ρ = setR i (f ρ) := by unfold sSet setR; cases f ρ <;> rfl
@[simp] theorem sIf_eq {t : TF} {a b : SF} : sIf t a b ρ = siR a b (t ρ) := by unfold sIf siR; cases t ρ <;> rfl
@[simp] theorem doR_ok : doR (.ok v ρ) = .nx ρ := (rfl)
@[simp] theorem retR_ok : retR (.ok v ρ) = .rt v ρ := (rfl)
@[simp] theorem setR_ok {i : Nat} : setR i (.ok v ρ) = .nx (ρ.set i (some v)) := (rfl)
@[simp] theorem siR_ok {a b : SF} {c : Bool} : siR a b (.ok c ρ) = if c = true then a ρ else b ρ := (rfl)
def appS (i : Nat) (v : PV) (ρ : Env) : Option PV → SR
  | some (.lst true xs) => if xs.length < big then .nx (ρ.set i (some (.lst true (xs ++ [v])))) else .bad
  | _ => .bad
def appR (i : Nat) : Res PV → SR
  | .ok v ρ => appS i v ρ (slot ρ i)
  | .er e ρ => .er e ρ
  | .bad => .bad
def isL : Option PV → Bool
  | some (.lst _ _) => true
  | _ => false
theorem sApp_eq0 {i : Nat} {f : EF} (h : isL (slot ρ i) = true) : sApp i f ρ = appR i (f ρ) := by
  unfold sApp
  generalize slot ρ i = o at h
  match o, h with
  | some (.lst w xs), _ =>
    show sOf (f ρ) _ = _
    unfold appR
    cases f ρ with
    | er => rfl
    | bad => rfl
    | ok v ρ1 =>
      show (match slot ρ1 i with | some (.lst true xs) => if xs.length < big then SR.nx (ρ1.set i (some (.lst true (xs ++ [v])))) else .bad | _ => .bad) = appS i v ρ1 (slot ρ1 i)
      generalize slot ρ1 i = o
      cases o with
      | none => rfl
      | some u =>
        cases u with
        | lst w ys => cases w <;> rfl
        | _ => rfl
@[simp] theorem sApp_eq {i : Nat} {f : EF} (h : isL (slot ρ i) = true) : sApp i f ρ = appR i (f ρ) := sApp_eq0 h
@[simp] theorem isL_lst {w : Bool} {xs : List PV} : isL (some (.lst w xs)) = true := (rfl)
@[simp] theorem appR_ok {i : Nat} : appR i (.ok v ρ) = appS i v ρ (slot ρ i) := (rfl)
@[simp] theorem appS_l {i : Nat} {xs : List PV} : appS i v ρ (some (.lst true xs)) = if xs.length < big then .nx (ρ.set i (some (.lst true (xs ++ [v])))) else .bad := (rfl)
def extS (i : Nat) (ρ : Env) : Option PV → PV → SR
  | some (.lst true xs), .lst true ys => if xs.length + ys.length ≤ big then .nx (ρ.set i (some (.lst true (xs ++ ys)))) else .bad
  | _, _ => .bad
def extR (i : Nat) : Res PV → SR
  | .ok v ρ => extS i ρ (slot ρ i) v
  | .er e ρ => .er e ρ
  | .bad => .bad
@[simp] theorem sExt_eq {i : Nat} {f : EF} (h : isL (slot ρ i) = true) : sExt i f ρ = extR i (f ρ) := by
  unfold sExt
  generalize slot ρ i = o at h
  match o, h with
  | some (.lst w xs), _ =>
    show sOf (f ρ) _ = _
    unfold extR
    cases f ρ with
    | er => rfl
    | bad => rfl
    | ok v ρ1 =>
      show (match slot ρ1 i, v with | some (.lst true xs), .lst true ys => if xs.length + ys.length ≤ big then SR.nx (ρ1.set i (some (.lst true (xs ++ ys)))) else .bad | _, _ => .bad) = extS i ρ1 (slot ρ1 i) v
      generalize slot ρ1 i = o
      cases o with
      | none => rfl
      | some u =>
        cases u with
        | lst w ys =>
          cases w with
          | false => rfl
          | true =>
            cases v with
            | lst w2 zs => cases w2 <;> rfl
            | _ => rfl
        | _ => rfl
@[simp] theorem extR_ok {i : Nat} : extR i (.ok v ρ) = extS i ρ (slot ρ i) v := (rfl)
@[simp] theorem extS_l {i : Nat} {xs ys : List PV} : extS i ρ (some (.lst true xs)) (.lst true ys) = if xs.length + ys.length ≤ big then .nx (ρ.set i (some (.lst true (xs ++ ys)))) else .bad := (rfl)
def pl4 (i : Nat) (v : PV) (ρ : Env) : Option PV → PV → SR
  | some (.lst true xs), .int k => match ixN xs.length k with
    | some j => .nx (ρ.set i (some (.lst true (xs.set j v))))
    | none => .bad
  | _, _ => .bad
def pl3 (i : Nat) (v : PV) : Res PV → SR
  | .ok k ρ => pl4 i v ρ (slot ρ i) k
  | .er e ρ => .er e ρ
  | .bad => .bad
def pl2 (i : Nat) (g : EF) (v : PV) (ρ : Env) : Option PV → SR
  | some _ => pl3 i v (g ρ)
  | none => .bad
def pl1 (i : Nat) (g : EF) : Res PV → SR
  | .ok v ρ => pl2 i g v ρ (slot ρ i)
  | .er e ρ => .er e ρ
  | .bad => .bad
@[simp] theorem sPutL_eq {i : Nat} {g f : EF} : sPutL i g f ρ = pl1 i g (f ρ) := by
  unfold sPutL pl1
  cases f ρ with
  | ok v ρ1 =>
    simp only [sOf_ok]
    unfold pl2
    cases slot ρ1 i with
    | none => rfl
    | some x =>
      simp only
      unfold pl3
      cases g ρ1 with
      | ok k ρ2 =>
        simp only [sOf_ok]
        unfold pl4
        generalize slot ρ2 i = o
        cases o with
        | none => rfl
        | some u =>
          cases u with
          | lst w ys =>
            cases w with
            | false => rfl
            | true => cases k <;> rfl
          | _ => rfl
      | er => rfl
      | bad => rfl
  | er => rfl
  | bad => rfl
@[simp] theorem pl1_ok {i : Nat} {g : EF} : pl1 i g (.ok v ρ) = pl2 i g v ρ (slot ρ i) := (rfl)
@[simp] theorem pl2_some {i : Nat} {g : EF} : pl2 i g v ρ (some w) = pl3 i v (g ρ) := (rfl)
@[simp] theorem pl3_ok {i : Nat} : pl3 i v (.ok w ρ) = pl4 i v ρ (slot ρ i) w := (rfl)
@[simp] theorem pl4_l {i : Nat} {xs : List PV} {k : Int} : pl4 i v ρ (some (.lst true xs)) (.int k) = match ixN xs.length k with
    | some j => .nx (ρ.set i (some (.lst true (xs.set j v))))
    | none => .bad := (rfl)
def p2R (i j : Nat) : Res (List PV) → SR
  | .ok [v, w] ρ => .nx ((ρ.set i (some v)).set j (some w))
  | .ok _ _ => .bad
  | .er e ρ => .er e ρ
  | .bad => .bad
@[simp] theorem sPar2_eq {i j : Nat} {g : AF} : sPar2 i j g ρ = p2R i j (g ρ) := by
  unfold sPar2 p2R
  cases g ρ with
  | ok vs ρ1 => simp only [sOf_ok]; split <;> simp_all
  | er => rfl
  | bad => rfl
@[simp] theorem p2R_ok {i j : Nat} : p2R i j (.ok [v, w] ρ) = .nx ((ρ.set i (some v)).set j (some w)) := (rfl)
def p3R (i j k : Nat) : Res (List PV) → SR
  | .ok [v, w, z] ρ => .nx (((ρ.set i (some v)).set j (some w)).set k (some z))
  | .ok _ _ => .bad
  | .er e ρ => .er e ρ
  | .bad => .bad
@[simp] theorem sPar3_eq {i j k : Nat} {g : AF} : sPar3 i j k g ρ = p3R i j k (g ρ) := by
  unfold sPar3 p3R
  cases g ρ with
  | ok vs ρ1 => simp only [sOf_ok]; split <;> simp_all
  | er => rfl
  | bad => rfl
@[simp] theorem p3R_ok {i j k : Nat} {z : PV} : p3R i j k (.ok [v, w, z] ρ) = .nx (((ρ.set i (some v)).set j (some w)).set k (some z)) := (rfl)
def stR (b : BF) : Res PV → SR
  | .ok v ρ => match b v ρ with
    | some ρ2 => .nx ρ2
    | none => .bad
  | .er e ρ => .er e ρ
  | .bad => .bad
@[simp] theorem sSetT_eq {b : BF} {f : EF} : sSetT b f ρ = stR b (f ρ) := by unfold sSetT stR; cases f ρ <;> rfl
@[simp] theorem stR_ok {b : BF} : stR b (.ok v ρ) = match b v ρ with
    | some ρ2 => .nx ρ2
    | none => .bad := (rfl)
@[simp] theorem bN_eq {i : Nat} : bN i v ρ = some (ρ.set i (some v)) := (rfl)
@[simp] theorem bT_eq {bs : List BF} {xs : List PV} : bT bs (.tup xs) ρ = bAll bs xs ρ := (rfl)
@[simp] theorem bAll_nil : bAll [] [] ρ = some ρ := (rfl)
@[simp] theorem bAll_cons {b : BF} {bs : List BF} {vs : List PV} : bAll (b :: bs) (v :: vs) ρ = (b v ρ).bind (bAll bs vs) := by
  rw [bAll]; cases b v ρ <;> rfl
def mkR (fx : List Bool) (as : List PV) : SR → FR
  | .nx ρ => fin fx as .non ρ
  | .rt v ρ => fin fx as v ρ
  | .er e ρ => finE fx as e ρ
  | _ => .bad
theorem mk_eq {fx : List Bool} {n : Nat} {s : SF} {as : List PV} (h : as.length = fx.length) : mk fx n s as = mkR fx as (s (as.map some ++ List.replicate (n - fx.length) none)) := by
  unfold mk
  refine (if_pos h).trans ?_
  generalize s (as.map some ++ List.replicate (n - fx.length) none) = r
  cases r <;> rfl
section
variable {fx : List Bool} {as : List PV}
@[simp] theorem mkR_nx : mkR fx as (.nx ρ) = fin fx as .non ρ := (rfl)
@[simp] theorem mkR_rt : mkR fx as (.rt v ρ) = fin fx as v ρ := (rfl)
@[simp] theorem mkR_er : mkR fx as (.er e ρ) = finE fx as e ρ := (rfl)
end
section
variable {i j : Int} {x y : Str} {xs ys : List PV} {b c : Bool}
@[simp] theorem add_ii : bAdd (.int i) (.int j) = some (.int (i + j)) := (rfl)
@[simp] theorem sub_ii : bSub (.int i) (.int j) = some (.int (i - j)) := (rfl)
theorem mul_ii (h : mulOk i j = true) : bMul (.int i) (.int j) = some (.int (i * j)) := by
  show (if mulOk i j = true then _ else _) = _
  rw [if_pos h]
theorem div_ii (h : divOk j = true) : bDiv (.int i) (.int j) = some (.int (i / j)) := by
  show (if divOk j = true then _ else _) = _
  rw [if_pos h]
theorem mod_ii (h : 0 < j) : bMod (.int i) (.int j) = some (.int (i % j)) := by
  show (if decide (0 < j) = true then _ else _) = _
  rw [if_pos (by simpa using h)]
theorem pow_ii (h : powOk i j = true) : bPow (.int i) (.int j) = some (.int (i ^ j.toNat)) := by
  show (if powOk i j = true then _ else _) = _
  rw [if_pos h]
@[simp] theorem neg_i : uNeg (.int i) = some (.int (-i)) := (rfl)
@[simp] theorem lt_ii : cLt (.int i) (.int j) = some (decide (i < j)) := (rfl)
@[simp] theorem gt_ii : cGt (.int i) (.int j) = some (decide (j < i)) := (rfl)
@[simp] theorem int_i : fInt (.int i) = some (.int i) := (rfl)
@[simp] theorem int_b : fInt (.bl b) = some (.int (b2i b)) := (rfl)
@[simp] theorem abs_i : fAbs (.int i) = some (.int (if i < 0 then -i else i)) := (rfl)
@[simp] theorem max_ii : fMax2 (.int i) (.int j) = some (.int (if j > i then j else i)) := (rfl)
@[simp] theorem min_ii : fMin2 (.int i) (.int j) = some (.int (if j < i then j else i)) := (rfl)
theorem eq_ii : cEq (.int i) (.int j) = some (decide (i = j)) := by
  simp [cEq, dat, eqv]; rw [Bool.eq_iff_iff]; simp
theorem eq_ss : cEq (.str x) (.str y) = some (decide (x = y)) := by
  simp [cEq, dat, eqv]; rw [Bool.eq_iff_iff]; simp
@[simp] theorem isN_non : cIsN .non = some true := (rfl)
@[simp] theorem isN_int : cIsN (.int i) = some false := (rfl)
@[simp] theorem len_lst {w : Bool} : fLen (.lst w xs) = some (.int xs.length) := (rfl)
@[simp] theorem len_tup : fLen (.tup xs) = some (.int xs.length) := (rfl)
@[simp] theorem len_str : fLen (.str x) = some (.int x.length) := (rfl)
end
@[simp] theorem fro_int {i : Int} : fro (.int i) = true := (rfl)
@[simp] theorem fro_str {x : Str} : fro (.str x) = true := (rfl)
@[simp] theorem fro_non : fro .non = true := (rfl)
@[simp] theorem fro_bl {b : Bool} : fro (.bl b) = true := (rfl)
@[simp] theorem fro_tup {xs : List PV} : fro (.tup xs) = fros xs := by rw [fro]
@[simp] theorem fro_lt {xs : List PV} : fro (.lst true xs) = false := by rw [fro]; rfl
@[simp] theorem fro_lf {xs : List PV} : fro (.lst false xs) = fros xs := by rw [fro]; rfl
@[simp] theorem fros_nil : fros [] = true := (rfl)
@[simp] theorem fros_cons {x : PV} {xs : List PV} : fros (x :: xs) = (fro x && fros xs) := by rw [fros]
@[simp] theorem frz_int {i : Int} : frz (.int i) = .int i := (rfl)
@[simp] theorem frz_str {x : Str} : frz (.str x) = .str x := (rfl)
@[simp] theorem frz_non : frz .non = .non := (rfl)
@[simp] theorem frz_bl {b : Bool} : frz (.bl b) = .bl b := (rfl)
@[simp] theorem ix_l {w : Bool} {xs : List PV} {i : Int} : ix (.lst w xs) (.int i) = (atI xs i).bind onlyFro := (rfl)
@[simp] theorem ix_t {xs : List PV} {i : Int} : ix (.tup xs) (.int i) = (atI xs i).bind onlyFro := (rfl)
@[simp] theorem at0 {α : Type} {x : α} {xs : List α} : atI (x :: xs) 0 = some x := by simp [atI, ixN]
@[simp] theorem at1 {α : Type} {x y : α} {xs : List α} : atI (x :: y :: xs) 1 = some y := by
  have : (1 : Int) < xs.length + 1 + 1 := by omega
  simp [atI, ixN, this]
@[simp] theorem at2 {α : Type} {x y z : α} {xs : List α} : atI (x :: y :: z :: xs) 2 = some z := by
  have : (2 : Int) < xs.length + 1 + 1 + 1 := by omega
  simp [atI, ixN, this]
@[simp] theorem ix0 {n : Nat} : ixN (n + 1) 0 = some 0 := by simp [ixN]
@[simp] theorem ix1 {n : Nat} : ixN (n + 2) 1 = some 1 := by
  have : (1 : Int) < n + 2 := by omega
  simp [ixN, this]
@[simp] theorem ix2 {n : Nat} : ixN (n + 3) 2 = some 2 := by
  have : (2 : Int) < n + 3 := by omega
  simp [ixN, this]
theorem onlyFro_t {v : PV} (h : fro v = true) : onlyFro v = some v := by unfold onlyFro; rw [if_pos h]
@[simp] theorem of_int {i : Int} : onlyFro (.int i) = some (.int i) := (rfl)
@[simp] theorem of_str {x : Str} : onlyFro (.str x) = some (.str x) := (rfl)
@[simp] theorem of_non : onlyFro .non = some .non := (rfl)
@[simp] theorem outs_nil : outs [] [] ρ = some [] := by cases ρ <;> rfl
@[simp] theorem outs_t {fx : List Bool} {a v : PV} {as : List PV} : outs (true :: fx) (a :: as) (some v :: ρ) = (outs fx as ρ).map (v :: ·) := (rfl)
@[simp] theorem outs_f {fx : List Bool} {a : PV} {as : List PV} {o : Option PV} : outs (false :: fx) (a :: as) (o :: ρ) = if fro a = true then (outs fx as ρ).map (a :: ·) else none := by cases o <;> rfl
def finR (v : PV) : Option (List PV) → FR
  | some as => .ok v as
  | none => .bad
@[simp] theorem fin_eq {fx : List Bool} {as : List PV} : fin fx as v ρ = finR v (outs fx as ρ) := by unfold fin finR; cases outs fx as ρ <;> rfl
@[simp] theorem finR_some {as : List PV} : finR v (some as) = .ok v as := (rfl)
theorem loop_ok {b : BF} {s : SF} (P : Nat → Env → Prop) : ∀ {xs : List PV} {ρ : Env} {k : Nat}, P k ρ →
    (∀ i x ρ, xs[i]? = some x → P (k + i) ρ → ∃ ρ1, b x ρ = some ρ1 ∧ ((∃ ρ2, s ρ1 = .nx ρ2 ∧ P (k + i + 1) ρ2) ∨ (∃ ρ2, s ρ1 = .ct ρ2 ∧ P (k + i + 1) ρ2))) → ∃ ρ', loop b s xs ρ = .nx ρ' ∧ P (k + xs.length) ρ'
  | [], ρ, k, h, _ => ⟨ρ, rfl, h⟩
  | x :: xs, ρ, k, h, st => by
    obtain ⟨ρ1, e1, h1⟩ := st 0 x ρ rfl h
    have go : ∀ ρ2, P (k + 1) ρ2 → ∃ ρ', loop b s xs ρ2 = .nx ρ' ∧ P (k + (x :: xs).length) ρ' := fun ρ2 h2 => by
      obtain ⟨ρ', e, h'⟩ := loop_ok P (k := k + 1) h2 fun i y ρ hy hp => by
        have := st (i + 1) y ρ hy (by rw [show k + (i + 1) = k + 1 + i by omega]; exact hp)
        rw [show k + (i + 1) + 1 = k + 1 + i + 1 by omega] at this
        exact this
      exact ⟨ρ', e, by rw [List.length_cons, show k + (xs.length + 1) = k + 1 + xs.length by omega]; exact h'⟩
    rcases h1 with ⟨ρ2, e2, h2⟩ | ⟨ρ2, e2, h2⟩
    · obtain ⟨ρ', e, h'⟩ := go ρ2 h2
      exact ⟨ρ', by rw [loop]; simp only [e1, e2]; exact e, h'⟩
    · obtain ⟨ρ', e, h'⟩ := go ρ2 h2
      exact ⟨ρ', by rw [loop]; simp only [e1, e2]; exact e, h'⟩
theorem loop_run {b : BF} {s : SF} {xs : List PV} {ρ : Env} (P : Nat → Env → Prop) (h0 : P 0 ρ)
    (st : ∀ i x ρ, xs[i]? = some x → P i ρ → ∃ ρ1, b x ρ = some ρ1 ∧ ((∃ ρ2, s ρ1 = .nx ρ2 ∧ P (i + 1) ρ2) ∨ (∃ ρ2, s ρ1 = .ct ρ2 ∧ P (i + 1) ρ2))) : ∃ ρ', loop b s xs ρ = .nx ρ' ∧ P xs.length ρ' := by
  obtain ⟨ρ', e, h⟩ := loop_ok P (k := 0) h0 fun i x ρ hx hp => by
    have := st i x ρ hx (by rwa [Nat.zero_add] at hp)
    rwa [Nat.zero_add]
  exact ⟨ρ', e, by rwa [Nat.zero_add] at h⟩
theorem comp_ok {own : List Nat} {b : BF} {f : EF} (P : Nat → Env → List PV → Prop) : ∀ {xs : List PV} {ρ : Env} {k : Nat} {ws : List PV}, P k ρ ws →
    (∀ i x ρ ws, xs[i]? = some x → P (k + i) ρ ws → ∃ ρ1 v ρ2, b x ρ = some ρ1 ∧ f ρ1 = .ok v ρ2 ∧ P (k + i + 1) (wipeE own ρ2) (ws ++ [v])) → ∃ vs ρ', compL own b tYes f xs ρ = .ok vs ρ' ∧ P (k + xs.length) ρ' (ws ++ vs)
  | [], ρ, k, ws, h, _ => ⟨[], ρ, rfl, by rw [List.append_nil]; exact h⟩
  | x :: xs, ρ, k, ws, h, st => by
    obtain ⟨ρ1, v, ρ2, e1, e2, h2⟩ := st 0 x ρ ws rfl h
    obtain ⟨vs, ρ', e, h'⟩ := comp_ok P (xs := xs) (k := k + 1) h2 fun i y ρ ws hy hp => by
      have := st (i + 1) y ρ ws hy (by rw [show k + (i + 1) = k + 1 + i by omega]; exact hp)
      rw [show k + (i + 1) + 1 = k + 1 + i + 1 by omega] at this
      exact this
    refine ⟨v :: vs, ρ', ?_, ?_⟩
    · rw [compL]
      simp only [e1, tYes, Res.bindB_ok, if_true, e2, e]
    · rw [List.length_cons, show k + (xs.length + 1) = k + 1 + xs.length by omega]
      rw [List.append_assoc] at h'
      exact h'
theorem comp_pure {α : Type} {own : List Nat} {b : BF} {t : TF} {f : EF} {ρ : Env} (enc : α → PV) (p : α → Bool) (g : α → PV) : ∀ {l : List α},
    (∀ x ∈ l, ∃ ρ1 ρ2, b (enc x) ρ = some ρ1 ∧ t ρ1 = .ok (p x) ρ2 ∧ (p x = false → wipeE own ρ2 = ρ) ∧ (p x = true → ∃ ρ3, f ρ2 = .ok (g x) ρ3 ∧ wipeE own ρ3 = ρ)) → compL own b t f (l.map enc) ρ = .ok ((l.filter p).map g) ρ
  | [], _ => rfl
  | x :: l, h => by
    have ih := comp_pure enc p g (l := l) fun y hy => h y (List.mem_cons_of_mem _ hy)
    obtain ⟨ρ1, ρ2, e1, e2, h0, h1⟩ := h x List.mem_cons_self
    rw [List.map_cons, compL]
    simp only [e1, e2, Res.bindB_ok]
    cases q : p x with
    | false =>
      rw [if_neg Bool.false_ne_true, h0 q, ih, List.filter_cons, if_neg (by rw [q]; exact Bool.false_ne_true)]
    | true =>
      obtain ⟨ρ3, e3, e4⟩ := h1 q
      rw [if_pos rfl, e3, Res.bindB_ok, e4, ih, Res.bindB_ok, List.filter_cons, if_pos q, List.map_cons]
theorem eComp_run {own : List Nat} {w : IF} {b : BF} {t : TF} {f : EF} {ρ ρ1 ρ2 : Env} {xs vs : List PV} (hw : w ρ = .ok xs ρ1) (h : compL own b t f xs (wipeE own ρ1) = .ok vs ρ2) : eComp own w b t f ρ = .ok (.lst true vs) (restore own ρ1 ρ2) := by
  unfold eComp; rw [hw, Res.bind_ok, h, Res.bindB_ok]
theorem sFor_run {w : IF} {b : BF} {s : SF} {ρ ρ1 ρ' : Env} {xs : List PV} (hw : w ρ = .ok xs ρ1) (h : loop b s xs ρ1 = .nx ρ') : sFor w b s ρ = .nx ρ' := by
  unfold sFor; rw [hw, sOf_ok, h]
theorem range1_run {f : EF} {ρ ρ1 : Env} {n : Int} (h : f ρ = .ok (.int n) ρ1) (h0 : 0 ≤ n) (h1 : n ≤ 1000000) : iRange1 f ρ = .ok ((List.range n.toNat).map fun i => .int (i : Nat)) ρ1 := by
  unfold iRange1
  rw [h, Res.bind_ok]
  simp only
  rw [if_pos]
  simp only [Bool.and_eq_true, decide_eq_true_eq]
  refine ⟨⟨by omega, by omega⟩, ?_⟩
  unfold big; omega
@[simp] theorem restore_nil {ρ0 : Env} : restore [] ρ0 ρ = ρ := (rfl)
def rs1 (i : Nat) (ρ : Env) : Option PV → Env
  | some v => if fro v = true then ρ.set i (some v) else ρ
  | none => ρ
@[simp] theorem restore_cons {i : Nat} {is : List Nat} {ρ0 : Env} : restore (i :: is) ρ0 ρ = rs1 i (restore is ρ0 ρ) (slot ρ0 i) := by
  rw [restore]; unfold rs1; cases slot ρ0 i <;> rfl
@[simp] theorem rs1_none {i : Nat} : rs1 i ρ none = ρ := (rfl)
@[simp] theorem rs1_some {i : Nat} : rs1 i ρ (some v) = if fro v = true then ρ.set i (some v) else ρ := (rfl)
@[simp] theorem wipe_nil : wipeE [] ρ = ρ := (rfl)
@[simp] theorem wipe_cons {i : Nat} {is : List Nat} : wipeE (i :: is) ρ = (wipeE is ρ).set i none := (rfl)
end Tr.Ev
namespace Tr
open PySem PySem.Spec L2
mutual
theorem toPD_dict : ∀ {v : PV}, (toPD v).hasDict = false
  | .tup xs => by rw [toPD, PyData.hasDict]; exact toPDs_dict
  | .lst _ xs => by rw [toPD, PyData.hasDict]; exact toPDs_dict
  | .dct .. => rfl | .ins .. => rfl | .con _ => rfl | .exc .. => rfl | .st .. => rfl
  | .non => rfl | .bl _ => rfl | .int _ => rfl | .str _ => rfl
theorem toPDs_dict : ∀ {xs : List PV}, PyData.hasDictAll (toPDs xs) = false
  | [] => rfl
  | x :: xs => by rw [toPDs, PyData.hasDictAll, toPD_dict, toPDs_dict]; rfl
end
end Tr
namespace Tr
end Tr
namespace Tr
open PySem PySem.Spec L2
section
variable {K : PySem.W.Frag} {mg : Str → Option Value} {h : Heap} {c : RC}
theorem mkDef {x : Str} {st : Stmt} {ps : List Str} {f : Addr} {oc : Value} {od an : Option Addr} {osl : Array (Option Value)} {kV doc pm cdv ct : Value} (X : K.In h) (G : h.Ns mainGlobals mg)
    (a : PySem.W.nsIn K mainGlobals x = some (some (.ref f))) (l : K.lookup f = some ⟨oc, od, .func (PySem.W.fnOf x x (defArgs st) (defBody st) (defScope st) .none kV doc pm an cdv ct), osl⟩)
    (cd : PySem.W.codeIn K cdv x = true) (k : PySem.W.keepIn K (.ref f) = true)
    (hb : ∀ (kV doc pm : Value) (an : Option Addr) (cdv ct : Value) (us : List Value), us.length = ps.length → bindArgs (PySem.W.fnOf x x (defArgs st) (defBody st) (defScope st) .none kV doc pm an cdv ct) ⟨us, []⟩ = pure (ps.zip us)) :
    ∃ f fd, mg x = some (.ref f) ∧ Fun K x x st f fd ∧ Binds K fd ps [] := by
  have F := fun_mk (st := st) l cd k
  exact ⟨f, _, PySem.W.mg_of X G a, F, F.binds hb⟩
theorem def_head {P : Program} {w : World} {k : Nat} {x : Str} {st : Stmt} {ps : List Str} {sem : FF} {fa : Addr} (hfa : mg x = some (.ref fa)) (hd : ∃ f fd, mg x = some (.ref f) ∧ Fun K x x st f fd ∧ Binds K fd ps [])
    {y : Str} (hb : ∀ (kV doc pm : Value) (an : Option Addr) (cdv ct : Value) (u : Value), bindArgs (PySem.W.fnOf x x (defArgs st) (defBody st) (defScope st) .none kV doc pm an cdv ct) ⟨[u], []⟩ = pure [(y, u)])
    (F : ∀ base : Heap, Def P w K mg base c k x st ps sem) :
    ∃ fd : FuncData, (∀ (s : Shared) (u : Value), BindsTo s fd ⟨[u], []⟩ [(y, u)]) ∧ ∀ base : Heap, K.In base → base.Ns mainGlobals mg → FnG P w K mg base (L2.CX P w) k fa fd ps (spF c ps.length sem) := by
  obtain ⟨f, fd, h1, h2, h3⟩ := hd
  rw [hfa] at h1; cases h1
  refine ⟨fd, fun s u => ?_, fun base _ _ => ?_⟩
  · obtain ⟨oc, od, kV, doc, pm, an, cdv, ct, osl, rfl, lk, hcd⟩ := h2.ex
    exact .of_eq (hb kV doc pm an cdv ct u)
  · obtain ⟨f', fd', e1, e2, e3, e4⟩ := F base
    rw [hfa] at e1; cases e1
    obtain ⟨oc, od, kV, doc, pm, an, cdv, ct, osl, rfl, lk, hcd⟩ := h2.ex
    obtain ⟨oc', od', kV', doc', pm', an', cdv', ct', osl', rfl, lk', hcd'⟩ := e2.ex
    rw [lk] at lk'
    cases lk'
    exact e4
theorem head_sp {sem : FF} {H : Hp} {a : Addr} {ns : List Int} {n : Nat} (hl : ns.length ≤ n) (hn : n ≤ big) (ho : ∃ o, H a = some (.frz o (.lst (ns.map V.int)))) (t : ∃ as, sem [.lst false (ns.map .int)] = .ok (.bl true) as) :
    spF c 1 sem [.ref a] H (fun v _ => v = .bl true) fun _ _ _ => False := by
  obtain ⟨o, ho⟩ := ho
  obtain ⟨as, t⟩ := t
  have rsI : ∀ l : List Int, Rs c H (fun p => p = a) (l.map .int) (l.map V.int) Emp := by
    intro l
    induction l with
    | nil => rfl
    | cons x l ih => exact ⟨_, _, Emp, Emp, rfl, Sub.emp, Sub.emp, Dis.empl, rfl, ih⟩
  refine ⟨rfl, [.lst false (ns.map .int)], fun p => p = a, Emp, ⟨fun p h => h.elim, fun p h => ⟨_, h ▸ ho⟩⟩, ⟨_, [], Emp, Emp, rfl, Sub.emp, Sub.emp, Dis.empl, ⟨a, ns.map V.int, rfl, ⟨⟨.inr ⟨o, ho⟩, rfl⟩, ?_⟩, rsI ns⟩, rfl⟩, ?_⟩
  · rw [List.length_map]; exact Nat.le_trans hl hn
  · rw [t]
    exact fun x H' F' a b s g d r rs => r
end
end Tr
namespace Tr
open PySem PySem.Spec L2
end Tr
namespace Tr
open PySem PySem.Spec L2
def spLaw (sem : FF) : Sp := fun xs H Q _ => ∃ (a : Addr) (ns : List Int), xs = [.ref a] ∧ (∃ o, H a = some (.frz o (.lst (ns.map V.int)))) ∧ ns.length ≤ big ∧ (∃ as, sem [.lst false (ns.map .int)] = .ok (.bl true) as) ∧ ∀ v H', v = .bl true → Q v H'
theorem spLaw_F {c : RC} {sem : FF} {xs : List V} {H : Hp} {Q : VK} {E : XK} (h : spLaw sem xs H Q E) : spF c 1 sem xs H Q E := by
  obtain ⟨a, ns, rfl, ho, hl, t, q⟩ := h
  obtain ⟨l, vs, F, A, g, r, p⟩ := head_sp (c := c) (Nat.le_refl ns.length) hl ho t
  refine ⟨l, vs, F, A, g, r, ?_⟩
  cases e : sem vs with
  | ok v vs' => rw [e] at p; exact fun x H' F' a b s g' d rv rs => q x H' (p x H' F' a b s g' d rv rs)
  | er z vs' => rw [e] at p; exact fun cls d H' F' b s g' rx rs => (p cls d H' F' b s g' rx rs).elim
  | bad => rw [e] at p; exact p
theorem FnG.law {P : Program} {w : World} {K : PySem.W.Frag} {mg : Str → Option Value} {base : Heap} {CX : CXT} {c : RC} {k : Nat} {f : Addr} {fd : FuncData} {ps : List Str} {sem : FF} (F : FnG P w K mg base CX k f fd ps (spF c 1 sem)) : FnG P w K mg base CX k f fd ps (spLaw sem) :=
  ⟨fun vs H Q E h => F.len vs H Q E (spLaw_F h), fun A gA outer s H args us vs Q E room env bind rel h => F.run A gA outer s H args us vs Q E room env bind rel (spLaw_F h)⟩
end Tr
namespace Tr
open PySem PySem.Spec PyProof.Rows L2
def MTx (K : PySem.W.Frag) (c : RC) (k : Nat) (m qual : Str) (st : Stmt) (ps : List Str) (f : Addr) (fd : FuncData) : Prop :=
  PySem.W.findIn K (.ref (c.cA k)) m = some (some (.ref f)) ∧ PySem.W.isFn K (.ref f) = true ∧ PySem.W.fnIn K f = true ∧ Fun K m qual st f fd ∧ Binds K fd ps []
def MDef (P : Program) (w : World) (K : PySem.W.Frag) (mg : Str → Option Value) (base : Heap) (c : RC) (lv k : Nat) (m qual : Str) (st : Stmt) (ps : List Str) (sem : FF) : Prop :=
  ∃ f fd, MTx K c k m qual st ps f fd ∧ FnG P w K mg base (L2.CX P w) lv f fd ps (spF c ps.length sem)
section
variable {X : Cx} {c : RC} {W : WX} {j lv k : Nat} {m qual : Str} {st : Stmt} {ps : List Str} {sem : FF}
theorem MDef.mok (M : MDef X.prog X.w X.K X.mg X.base c lv k m qual st ps sem) (cl : Cls X.K (c.cA k)) {fs : List Str} (hF : c.cF k = fs) (no : fs.contains m = false) (hr : lv ≤ j) : MOk X c j m ps.length [] k sem := by
  obtain ⟨f, fd, ⟨h1, h2, h3, h4, h5⟩, h6⟩ := M
  exact ⟨lv, f, fd, ps, [], [], cl, ⟨h1, h2, h4.kp⟩, h6, hr, h5, .nil, fun _ _ => rfl, by rw [hF]; simpa using no⟩
theorem MDef.eq {tg : List Nat} (M : MDef X.prog X.w X.K X.mg X.base c lv k "__eq__" qual st ps sem) (hl : ps.length = 2) (nf : ∀ k', tg.contains k' = true → PySem.W.notFirst X.K (c.cA k) (.ref (c.cA k')) = true) (hr : lv ≤ j) : EqOk X c j tg k sem := by
  obtain ⟨f, fd, ⟨h1, h2, h3, h4, h5⟩, h6⟩ := M
  rw [hl] at h6
  exact ⟨lv, f, fd, ps, h1, h2, h6, hr, h5, nf⟩
end
section
variable {P : Program} {w : World} {K : PySem.W.Frag} {mg : Str → Option Value} {base : Heap} {c : RC}
theorem fng_bad {lv n : Nat} {f : Addr} {fd : FuncData} {ps : List Str} : FnG P w K mg base (L2.CX P w) lv f fd ps (spF c n fun _ => .bad) :=
  ⟨fun vs H Q E h => (by obtain ⟨_, _, _, _, _, _, p⟩ := h; exact p.elim), fun A gA outer s H args us vs Q E room env bind rel h => (by obtain ⟨_, _, _, _, _, _, p⟩ := h; exact p.elim)⟩
end
end Tr
namespace Tr
open PySem PySem.Spec PyProof.Rows L2
end Tr
namespace Tr
end Tr
namespace Tr
open PySem
end Tr
namespace Tr
open PySem PySem.Spec PyProof.Rows L2
end Tr
namespace Tr
open PySem PySem.Spec PyProof.Rows L2
end Tr
namespace Tr
open PySem PySem.Spec PyProof.Rows L2
end Tr
namespace Tr
open PySem PySem.Spec PyProof.Rows L2
end Tr
namespace Tr
open PySem PySem.Spec PyProof.Rows L2
end Tr
namespace Tr
open PySem PySem.Spec PyProof.Rows L2
end Tr
set_option autoImplicit false
namespace Tr
def keyP : PV → Option Key
  | .int i => some (.inl i)
  | .str x => some (.inr x)
  | _ => none
def repD : List Key → List PV → Key → PV → List PV
  | k' :: ks, x :: xs, k, v => (if k' = k then v else x) :: repD ks xs k v
  | _, _, _, _ => []
def hasK : List Key → Key → Bool
  | [], _ => false
  | k' :: ks, k => if k' = k then true else hasK ks k
def putKs (ks : List Key) (k : Key) : List Key := if hasK ks k = true then ks else ks ++ [k]
def putVs (ks : List Key) (xs : List PV) (k : Key) (v : PV) : List PV := if hasK ks k = true then repD ks xs k v else xs ++ [v]
def getD : List Key → List PV → Key → Option PV
  | k' :: ks, x :: xs, k => if k' = k then some x else getD ks xs k
  | _, _, _ => none
def dIx : PV → PV → Option PV
  | .dct _ ks xs, k => if fros xs = true then (keyP k).bind (getD ks xs) else none
  | _, _ => none
def pairsP : List PV → Option (List (Key × PV))
  | [] => some []
  | .tup [k, v] :: xs => (keyP k).bind fun kk => (pairsP xs).map ((kk, v) :: ·)
  | _ => none
def mrgD : List (Key × PV) → List Key → List PV → PV
  | [], ks, vs => .dct true ks vs
  | (k, v) :: ps, ks, vs => mrgD ps (putKs ks k) (putVs ks vs k v)
def fDict : PV → Option PV
  | .tup xs => if fros xs then (pairsP xs).map fun ps => mrgD ps [] [] else none
  | .dct _ ks xs => if fros xs then some (.dct true ks xs) else none
  | _ => none
end Tr
namespace Tr
open PySem PySem.Spec L2
def repV : List Key → List V → Key → V → List V
  | k' :: ks, x :: xs, k, v => (if k' = k then v else x) :: repV ks xs k v
  | _, _, _, _ => []
def putVV (ks : List Key) (xs : List V) (k : Key) (v : V) : List V := if hasK ks k = true then repV ks xs k v else xs ++ [v]
theorem zip_any (k : Key) : ∀ (ks : List Key) (us : List V), ks.length = us.length → ((ks.zip us).any fun kv => decide (kv.1 = k)) = hasK ks k
  | [], _, _ => rfl
  | k' :: ks, u :: us, h => by
    rw [List.zip_cons_cons, List.any_cons, zip_any k ks us (by simpa using h), hasK]
    by_cases e : k' = k
    · simp [e]
    · simp [e]
  | _ :: _, [], h => by cases h
theorem zip_rep (k : Key) (z : V) : ∀ (ks : List Key) (us : List V), ks.length = us.length → (ks.zip us).map (fun kv => if kv.1 = k then (kv.1, z) else kv) = ks.zip (repV ks us k z)
  | [], _, _ => rfl
  | k' :: ks, u :: us, h => by
    rw [List.zip_cons_cons, List.map_cons, zip_rep k z ks us (by simpa using h), repV, List.zip_cons_cons]
    by_cases e : k' = k
    · simp [e]
    · simp [e]
  | _ :: _, [], h => by cases h
theorem putK_zip {ks : List Key} {us : List V} (k : Key) (z : V) (h : ks.length = us.length) : putK (ks.zip us) k z = (putKs ks k).zip (putVV ks us k z) := by
  unfold putK putKs putVV
  rw [zip_any k ks us h]
  split
  · exact zip_rep k z ks us h
  · rw [List.zip_append h]; rfl
theorem putKs_len {ks : List Key} {xs : List PV} (k : Key) (v : PV) (h : ks.length = xs.length) : (putKs ks k).length = (putVs ks xs k v).length := by
  unfold putKs putVs
  split
  · have : ∀ (ks : List Key) (xs : List PV), ks.length = xs.length → (repD ks xs k v).length = ks.length := by
      intro ks
      induction ks with
      | nil => intro xs _; rfl
      | cons k' ks ih =>
        intro xs h
        cases xs with
        | nil => cases h
        | cons x xs => rw [repD, List.length_cons, List.length_cons, ih xs (by simpa using h)]
    exact (this ks xs h).symm
  · rw [List.length_append, List.length_append, h]; rfl
theorem putVs_le {ks : List Key} {xs : List PV} (k : Key) (v : PV) (h : ks.length = xs.length) : (putVs ks xs k v).length ≤ xs.length + 1 := by
  rw [← putKs_len k v h, ← h]
  unfold putKs
  split
  · omega
  · rw [List.length_append]; exact Nat.le_refl _
section
variable {c : RC} {H : Hp} {F : AS}
theorem Rs.repD {v : PV} {z : V} (k : Key) (r : R c H F v z Emp) : ∀ {ks : List Key} {xs : List PV} {us : List V}, ks.length = xs.length → Rs c H F xs us Emp → Rs c H F (Tr.repD ks xs k v) (repV ks us k z) Emp
  | [], xs, us, _, _ => rfl
  | k' :: ks, x :: xs, us, h, rs => by
    obtain ⟨u, us', b, d, e, sb, sd, dd, r1, r2⟩ := rs
    subst e
    rw [Tr.repD, repV]
    have ih := Rs.repD k r (ks := ks) (by simpa using h) (r2.mono sd)
    by_cases e : k' = k
    · rw [if_pos e, if_pos e]; exact ⟨z, _, Emp, Emp, rfl, Sub.emp, Sub.emp, Dis.empl, r, ih⟩
    · rw [if_neg e, if_neg e]; exact ⟨u, _, Emp, Emp, rfl, Sub.emp, Sub.emp, Dis.empl, r1.mono sb, ih⟩
  | _ :: _, [], _, h, _ => by cases h
theorem Rs.put {v : PV} {z : V} (k : Key) (r : R c H F v z Emp) {ks : List Key} {xs : List PV} {us : List V} (h : ks.length = xs.length) (rs : Rs c H F xs us Emp) : Rs c H F (putVs ks xs k v) (putVV ks us k z) Emp := by
  unfold putVs putVV
  split
  · exact Rs.repD k r h rs
  · exact (Rs.append rs (Rs.one r) Dis.empl).mono (Sub.uni Sub.emp Sub.emp)
theorem key_V {kv : PV} {y : V} {a : AS} {k : Key} (r : R c H F kv y a) (e : keyP kv = some k) : y = kV k := by
  cases kv with
  | int i => cases e; exact r
  | str x => cases e; exact r.1
  | _ => cases e
end
end Tr
namespace Tr
open PySem PySem.Spec L2
section
variable {X : Cx} {c : RC} {W : WX} {tg it kx vx : Expr} {ifs : List Expr} {scope : Scope} {own : List (Str × Nat)} {pos : Pos} {w : IF} {b : BF} {tst : TF} {f gf : EF} {i : Nat}
structure BlkD (X : Cx) (c : RC) (tg kx vx : Expr) (ifs : List Expr) (scope : Scope) (own : List (Str × Nat)) (b : BF) (tst : TF) (f gf : EF) : Prop where
  ok : BlkOk X.N X.env.scope scope own
  g : ∀ (s : Shared) (H : Hp) (C : Addr) (cl : List (Str × Addr)) (fp : List Addr), SG c (fxOwn (own.map (·.2))) (X.blk s H scope (compEnvC scope cl C X.env) fp) tg b
  t : ∀ (s : Shared) (H : Hp) (C : Addr) (cl : List (Str × Addr)) (fp : List Addr), PTs (X.blk s H scope (compEnvC scope cl C X.env) fp) ifs (tTs c W0 tst)
  k : ∀ (s : Shared) (H : Hp) (C : Addr) (cl : List (Str × Addr)) (fp : List Addr), SE (X.blk s H scope (compEnvC scope cl C X.env) fp) c W0 kx f
  v : ∀ (s : Shared) (H : Hp) (C : Addr) (cl : List (Str × Addr)) (fp : List Addr), SE (X.blk s H scope (compEnvC scope cl C X.env) fp) c W0 vx gf
theorem BlkD.of {elt : Expr} (B : Blk X c tg kx ifs scope own b tst f) (B2 : Blk X c tg vx ifs scope own b tst gf) : BlkD X c tg kx vx ifs scope own b tst f gf := ⟨B.ok, B.g, B.t, B.e, B2.e⟩
end
end Tr
namespace Tr
open PySem PySem.Spec PyProof.Rows
end Tr
namespace Tr
open PySem PySem.Spec PyProof.Rows L2
end Tr
namespace Tr
open PySem PySem.Spec L2
end Tr
namespace Tr
open PySem PySem.Spec PyProof.Rows L2
section
variable {c : RC} {H : Hp} {F : AS}
theorem Rs.getD {k : Key} : ∀ {ks : List Key} {xs : List PV} {us : List V} {z : PV}, ks.length = xs.length → Rs c H F xs us Emp → Tr.getD ks xs k = some z → ∃ v, valV (ks.zip us) k = some v ∧ R c H F z v Emp
  | [], xs, _, _, _, _, e => by simp [Tr.getD] at e
  | k' :: ks, x :: xs, us, z, h, rs, e => by
    obtain ⟨u, us', b, d, e1, sb, sd, dd, r1, r2⟩ := rs
    subst e1
    rw [Tr.getD] at e
    rw [List.zip_cons_cons]
    by_cases q : k' = k
    · rw [if_pos q] at e
      cases e
      exact ⟨u, valV_pos (p := (k', u)) q, r1.mono sb⟩
    · rw [if_neg q] at e
      rw [valV_neg (p := (k', u)) q]
      exact Rs.getD (by simpa using h) (r2.mono sd) e
  | _ :: _, [], _, _, h, _, _ => by cases h
end
section
variable {X : Cx} {c : RC} {W : WX} {a b e : Expr} {oa ob : Opd} {pos : Pos}
def rDIx : R2 := fun x y H Q => ∃ a v, x = .ref a ∧ DGet H a y (some v) ∧ Q v H
theorem k_dIx : K2 c rDIx dIx := by
  intro v w z x y H F Q A B g r1 r2 k q
  cases v with
  | dct b ks xs =>
    simp only [dIx] at k
    split at k
    · rename_i hf
      obtain ⟨p, vs, bb, rfl, q1, l, l2, sb, rs⟩ := r1.dctR
      cases ek : keyP w with
      | none => rw [ek] at k; cases k
      | some kk =>
        rw [ek] at k
        obtain ⟨u, e1, ru⟩ := Rs.getD l (rs.emp hf) k
        exact ⟨p, u, rfl, .inl ⟨_, kk, q1, key_V r2 ek, e1.symm⟩, q.now g ru⟩
    · cases k
  | _ => cases k
theorem e_dIx (D : Ds X c) (ha : SO X c W a oa) (hb : SO X c W b ob) (hs : NoSl b) : SE X c W (.Subscript a b pos) (eP2 dIx oa ob) :=
  PE.weak (pe_dget (by have := D.un; omega) ha hb hs) fun σ H Q q => two_k (r := rDIx) k_dIx q
end
end Tr
namespace Tr
open PySem PySem.Spec PyProof.Rows L2
section
variable {X : Cx} {c : RC} {W : WX} {k : Nat} {a b : Expr} {oa ob : Opd} {pos p : Pos}
theorem Fin.dct {Q : VK} {H : Hp} {F : AS} {ks : List Key} {xs : List PV} {vs : List V} (h : Fin c H F (.dct true ks xs) Q) (g : Good H F Emp) (r : Rs c H F xs vs Emp) (hl : ks.length = xs.length) (l : xs.length ≤ big) {p : Addr} (hp : H p = none) : Q (.ref p) (upd H p (.dK (ks.zip vs))) := by
  have g1 : Good (upd H p (.dK (ks.zip vs))) F (fun q => q = p) := (g.new hp (o := .dK (ks.zip vs)) trivial).sub Sub.r
  refine h (.ref p) _ (fun q => q = p) ((Stp.new hp).drop Sub.r) g1 ?_
  exact ⟨p, vs, Emp, rfl, ⟨hl, l⟩, upd_same, rfl, id, Sub.emp, Rs.step g (Stp.newT (A := Emp) hp) r Dis.empl⟩
theorem mrg_rel {H : Hp} {F : AS} : ∀ {prs : List (Key × PV)} {kvs : List (Key × V)} {ks : List Key} {vs : List PV} {us : List V}, kvs.map (·.1) = prs.map (·.1) → Rs c H F (prs.map (·.2)) (kvs.map (·.2)) Emp → ks.length = vs.length → Rs c H F vs us Emp →
    ∃ ks' vs' us', mrgD prs ks vs = .dct true ks' vs' ∧ ks'.length = vs'.length ∧ mergeK (ks.zip us) kvs = ks'.zip us' ∧ Rs c H F vs' us' Emp ∧ vs'.length ≤ vs.length + prs.length
  | [], kvs, ks, vs, us, e, _, hl, rs => by
    cases kvs with
    | nil => exact ⟨ks, vs, us, rfl, hl, rfl, rs, Nat.le_refl _⟩
    | cons _ _ => cases e
  | (k, v) :: prs, kvs, ks, vs, us, e, r, hl, rs => by
    cases kvs with
    | nil => cases e
    | cons q kvs =>
      rw [List.map_cons, List.map_cons] at e
      injection e with e1 e2
      obtain ⟨z, zs, b, d, e3, sb, sd, _, r1, r2⟩ := r
      rw [List.map_cons] at e3
      injection e3 with e4 e5
      have e1 : q.1 = k := e1
      subst e5
      have hl2 := hl.trans rs.len.symm
      have r1' : R c H F v q.2 Emp := by rw [e4]; exact r1.mono sb
      obtain ⟨ks', vs', us', h1, h2, h3, h4, h5⟩ := mrg_rel e2 (r2.mono sd) (putKs_len k v hl) (Rs.put k r1' hl rs)
      refine ⟨ks', vs', us', h1, h2, ?_, h4, ?_⟩
      · rw [← h3, ← putK_zip k q.2 hl2, ← e1]; rfl
      · have := putVs_le k v hl
        rw [List.length_cons]; omega
end
end Tr
namespace Tr
open PySem PySem.Spec PyProof.Rows L2
end Tr
namespace Tr
open PySem PySem.Spec PyProof.Rows L2
end Tr
namespace Tr
open PySem PySem.Spec PyProof.Rows L2
end Tr
set_option autoImplicit false
namespace Tr
end Tr
set_option autoImplicit false
namespace Tr
end Tr
set_option autoImplicit false
namespace Tr
end Tr
set_option autoImplicit false
namespace Tr
end Tr
set_option autoImplicit false
namespace Tr
def sPutD (i : Nat) (g f : EF) : SF := fun ρ => sOf (f ρ) fun v ρ1 => match slot ρ1 i with
  | some _ => sOf (g ρ1) fun k ρ2 => match slot ρ2 i, keyP k with
    | some (.dct true ks xs), some kk => if fros xs = true then if fro v = true then if xs.length < big then .nx (ρ2.set i (some (.dct true (putKs ks kk) (putVs ks xs kk v)))) else .bad else .bad else .bad
    | _, _ => .bad
  | none => .bad
end Tr
set_option autoImplicit false
namespace Tr
end Tr
set_option autoImplicit false
namespace Tr
open PySem (Str)
theorem allS_strs : ∀ ss : List Str, allS (ss.map PV.str) = some ss
  | [] => rfl
  | s :: ss => by rw [List.map_cons, allS, allS_strs ss]; rfl
end Tr
set_option autoImplicit false
namespace Tr
def bTL (bs : List BF) : BF := fun v ρ => match v with
  | .tup xs => bAll bs xs ρ
  | .lst _ xs => bAll bs xs ρ
  | _ => none
@[simp] theorem bTL_t {bs : List BF} {xs : List PV} {ρ : Env} : bTL bs (.tup xs) ρ = bAll bs xs ρ := (rfl)
@[simp] theorem bTL_l {bs : List BF} {w : Bool} {xs : List PV} {ρ : Env} : bTL bs (.lst w xs) ρ = bAll bs xs ρ := (rfl)
end Tr
set_option autoImplicit false
namespace Tr
def isLstP : PV → Bool
  | .lst _ _ => true
  | _ => false
def bIdxL : PV → PV → Option PV
  | .lst _ xs, .str x => (Tr.allS xs).bind fun ss => (sIdx x ss).map fun j => .int (j : Nat)
  | _, _ => none
def eIdxL (a b : Opd) : EF := op2g isLstP a b bIdxL
end Tr
set_option autoImplicit false
namespace Tr
end Tr
set_option autoImplicit false
namespace Tr
end Tr
namespace Tr
end Tr
set_option autoImplicit false
namespace Tr
abbrev PF := Env → Res (List (Key × PV))
def pNil : PF := fun ρ => .ok [] ρ
def pCons (f g : EF) (r : PF) : PF := fun ρ => (f ρ).bind fun kv ρ1 => (g ρ1).bind fun v ρ2 => match keyP kv with
  | some k => if fro v = true then (r ρ2).bind fun ps ρ3 => .ok ((k, v) :: ps) ρ3 else .bad
  | none => .bad
def eDisp (r : PF) : EF := fun ρ => (r ρ).bind fun ps ρ1 => if ps.length ≤ 15 then .ok (mrgD ps [] []) ρ1 else .bad
end Tr
set_option autoImplicit false
namespace Tr
open PySem
def strP (v : PV) : Bool := dat deep v && (toPD v).showable && (toPD v).intsShort 13 && decide ((toPD v).weight ≤ 1048576)
def strD : PV → Bool
  | .non => true
  | .bl _ => true
  | .str _ => true
  | .int i => decide (i.natAbs.log2 < 1920)
  | .tup xs => strP (.tup xs)
  | .lst b xs => strP (.lst b xs)
  | _ => false
def fStrN (v : PV) : Option PV := if strD v = true then some .non else none
end Tr
set_option autoImplicit false
namespace Tr
def nE (f : FF) : FF := fun as => match f as with
  | .ok v as' => .ok v as'
  | _ => .bad
end Tr
set_option autoImplicit false
namespace Tr
def zipW (xs ys : List PV) : List PV := List.zipWith (fun x y => .tup [x, y]) xs ys
def zipPA : PV → PV → Option (List PV)
  | .tup xs, .tup ys => if fro (.tup xs) && fro (.tup ys) then some (zipW xs ys) else none
  | .tup xs, .lst false ys => if fro (.tup xs) && fro (.lst false ys) then some (zipW xs ys) else none
  | .lst false xs, .tup ys => if fro (.lst false xs) && fro (.tup ys) then some (zipW xs ys) else none
  | .lst false xs, .lst false ys => if fro (.lst false xs) && fro (.lst false ys) then some (zipW xs ys) else none
  | _, _ => none
def iZipA (a b : Opd) : IF := op2 a b zipPA
end Tr
namespace Law
open PySem Tr
def b__law_spool : SF := (sSeq (sSet 2 (eIf (tPV2 cLt (.nm 1) (.ev (eP1 fLen (.nm 0)))) (eP2 ix (.nm 0) (.nm 1)) (eC (.int 0))))
    (sRet (eDisp (pCons (eC (.str "rest")) (eP2 fMax2 (.ev (eC (.int 0))) (.ev (eP2 bSub (.ev (eP1 fAbs (.nm 2))) (.ev (eP2 bPow (.ev (eC (.int 10))) (.ev (eC (.int 18)))))))) (pCons (eC (.str "seed")) (eP2 bAdd (.ev (eP2 bMul (.ev (eP2 bMod (.ev (eP1 fInt (.nm 2))) (.ev (eP2 bAdd (.ev (eP2 bPow (.ev (eC (.int 10))) (.ev (eC (.int 41))))) (.ev (eC (.int 109))))))) (.ev (eC (.int 64))))) (.nm 1)) (pCons (eC (.str "turn")) (eC (.int 0)) pNil))))))
def f__law_spool : FF := mk [true, true] 3 b__law_spool
def b__law_pull : SF := (sSeq (sIf (tPV2 cGt (.ev (eP2 dIx (.nm 0) (.ev (eC (.str "rest"))))) (.ev (eC (.int 0)))) (sSeq (sSet 2 (eP2 bMod (.ev (eP1 fIntS (.ev (eP2 dIx (.nm 0) (.ev (eC (.str "rest"))))))) (.nm 1)))
    (sSeq (sPutD 0 (eC (.str "rest")) (eP2 bDiv (.ev (eP2 dIx (.nm 0) (.ev (eC (.str "rest"))))) (.nm 1)))
    (sRet (eMv 2)))) sNx)
    (sSeq (sPutD 0 (eC (.str "turn")) (eP2 bAdd (.ev (eP2 dIx (.nm 0) (.ev (eC (.str "turn"))))) (.ev (eC (.int 1)))))
    (sSeq (sSet 3 (eP2 bPow (.ev (eP1 fIntS (.ev (eP2 bAdd (.ev (eP2 dIx (.nm 0) (.ev (eC (.str "seed"))))) (.ev (eP2 bMul (.ev (eP2 bMul (.ev (eC (.int 90001))) (.ev (eP2 dIx (.nm 0) (.ev (eC (.str "turn"))))))) (.ev (eP2 dIx (.nm 0) (.ev (eC (.str "turn"))))))))))) (.ev (eC (.int 2)))))
    (sSeq (sSet 3 (eP2 bAdd (.ev (eP2 bMod (.ev (eP1 fInt (.nm 3))) (.ev (eC (.int 170141183460469231731687303715884105727))))) (.ev (eP2 bMul (.ev (eC (.int 7013))) (.ev (eP2 dIx (.nm 0) (.ev (eC (.str "turn")))))))))
    (sSeq (sSet 3 (eP2 bMod (.ev (eP1 fInt (.ev (eP2 bPow (.nm 3) (.ev (eC (.int 3))))))) (.ev (eC (.int 162259276829213363391578010288127)))))
    (sRet (eP2 bMod (.ev (eP2 bDiv (.nm 3) (.ev (eC (.int 1000003))))) (.nm 1))))))))
def f__law_pull : FF := mk [true, true] 4 b__law_pull
def b__law_thing : SF := (sSeq (sSet 1 (eP1 (fJoin (.str "")) (.ev (eComp [3] (iRange1 (eCall f__law_pull [(.nm 0), (.ev (eC (.int 9)))] [])) (bN 3) tYes (eP2 ix (.ev (eC (.str "abkey 1"))) (.ev (eCall f__law_pull [(.nm 0), (.ev (eC (.int 7)))] [])))))))
    (sSeq (sSet 2 (eLst (aCons (eCall f__law_pull [(.nm 0), (.ev (eP2 bPow (.ev (eC (.int 10))) (.ev (eC (.int 20)))))] []) (aCons (eP2 bSub (.ev (eP1 uNeg (.ev (eC (.int 1))))) (.ev (eCall f__law_pull [(.nm 0), (.ev (eC (.int 9)))] []))) (aCons (eNm 1) (aCons (eTup (aCons (eNm 1) (aCons (eC (.int 1)) aNil))) (aCons (eFrz (eLst (aCons (eNm 1) (aCons (eC .non) aNil)))) (aCons (eC .non) (aCons (eC (.bl true)) aNil)))))))))
    (sRet (eP2 ix (.nm 2) (.ev (eCall f__law_pull [(.nm 0), (.ev (eP1 fLen (.nm 2)))] []))))))
def f__law_thing : FF := mk [true] 4 b__law_thing
def b__law_like (rec : FF) : SF := (sSeq (sIf (tOr (tE (eT (tPV (isA .bool) (.nm 1)))) (tE (eT (tPV (isA .bool) (.nm 0))))) (sRet (eAnd (tE (eT (tPV (isA .bool) (.nm 1)))) (eAnd (tE (eT (tPV (isA .bool) (.nm 0)))) (eT (tPV2 cEq (.nm 0) (.nm 1)))))) sNx)
    (sSeq (sIf (tOr (tPV cIsN (.nm 1)) (tPV cIsN (.nm 0))) (sRet (eAnd (tE (eT (tPV cIsN (.nm 1)))) (eT (tPV cIsN (.nm 0))))) sNx)
    (sSeq (sIf (tE (eT (tPV (isA2 .list .tuple) (.nm 1)))) (sSeq (sIf (tOr (tPV2 cNe (.ev (eT (tPV (isA .list) (.nm 1)))) (.ev (eT (tPV (isA .list) (.nm 0))))) (tPV2 cNe (.ev (eT (tPV (isA .tuple) (.nm 1)))) (.ev (eT (tPV (isA .tuple) (.nm 0)))))) (sRet (eC (.bl false))) sNx)
    (sRet (eAnd (tE (eT (tPV2 cEq (.ev (eP1 fLen (.nm 0))) (.ev (eP1 fLen (.nm 1)))))) (eP1 fAll (.ev (eComp [2, 3] (iZipA (.ev (eNm 0)) (.ev (eNm 1))) (bT [(bN 2), (bN 3)]) tYes (eCall rec [(.nm 2), (.nm 3)] []))))))) sNx)
    (sSeq (sIf (tE (eT (tPV (isA .int) (.nm 1)))) (sRet (eAnd (tE (eT (tPV (isA .int) (.nm 0)))) (eT (tPV2 cEq (.nm 0) (.nm 1))))) sNx)
    (sRet (eAnd (tE (eT (tPV (isA .str) (.nm 0)))) (eT (tPV2 cEq (.nm 0) (.nm 1)))))))))
def f__law_like : Nat → FF
  | 0 => fun _ => .bad
  | n + 1 => mk [true, true] 4 (b__law_like (f__law_like n))
def b__law_raise_more : SF := (sSeq (sIf (tPV2 cEq (.nm 0) (.ev (eC (.int 11)))) (sRaise 12 (aCons (eNm 1) aNil)) sNx)
    (sSeq (sIf (tPV2 cEq (.nm 0) (.ev (eC (.int 12)))) (sRaise 13 (aCons (eNm 1) aNil)) sNx)
    (sSeq (sIf (tPV2 cEq (.nm 0) (.ev (eC (.int 13)))) (sRaise 14 (aCons (eNm 1) aNil)) sNx)
    (sSeq (sIf (tPV2 cEq (.nm 0) (.ev (eC (.int 14)))) (sRaise 15 (aCons (eNm 1) aNil)) sNx)
    (sSeq (sIf (tPV2 cEq (.nm 0) (.ev (eC (.int 15)))) (sRaise 16 (aCons (eNm 1) (aCons (eNm 2) aNil))) sNx)
    (sSeq (sIf (tPV2 cEq (.nm 0) (.ev (eC (.int 16)))) (sRaise 17 (aCons (eNm 1) aNil)) sNx)
    (sSeq (sIf (tPV2 cEq (.nm 0) (.ev (eC (.int 17)))) (sRaise 18 (aCons (eNm 1) aNil)) sNx)
    (sSeq (sIf (tPV2 cEq (.nm 0) (.ev (eC (.int 18)))) (sRaise 19 (aCons (eNm 1) aNil)) sNx)
    (sSeq (sIf (tPV2 cEq (.nm 0) (.ev (eC (.int 19)))) (sRaise 20 (aCons (eNm 1) aNil)) sNx)
    (sRaise0 0 (aCons (eP1 fStrN (.nm 1)) aNil)))))))))))
def f__law_raise_more : FF := mk [true, true, true] 3 b__law_raise_more
def b__law_raise_some : SF := (sSeq (sIf (tPV2 cEq (.nm 0) (.ev (eC (.int 0)))) (sRaise0 1 (aCons (eP1 fStrN (.nm 1)) aNil)) sNx)
    (sSeq (sIf (tPV2 cEq (.nm 0) (.ev (eC (.int 1)))) (sRaise0 2 (aCons (eP1 fStrN (.nm 1)) aNil)) sNx)
    (sSeq (sIf (tPV2 cEq (.nm 0) (.ev (eC (.int 2)))) (sRaise0 3 (aCons (eP1 fStrN (.nm 1)) aNil)) sNx)
    (sSeq (sIf (tPV2 cEq (.nm 0) (.ev (eC (.int 3)))) (sRaise0 4 (aCons (eP1 fStrN (.nm 1)) aNil)) sNx)
    (sSeq (sIf (tPV2 cEq (.nm 0) (.ev (eC (.int 4)))) (sRaise0 5 (aCons (eP1 fStrN (.nm 1)) aNil)) sNx)
    (sSeq (sIf (tPV2 cEq (.nm 0) (.ev (eC (.int 5)))) (sRaise0 6 (aCons (eP1 fStrN (.nm 1)) aNil)) sNx)
    (sSeq (sIf (tPV2 cEq (.nm 0) (.ev (eC (.int 6)))) (sRaise 7 (aCons (eNm 1) aNil)) sNx)
    (sSeq (sIf (tPV2 cEq (.nm 0) (.ev (eC (.int 7)))) (sRaise 8 (aCons (eNm 1) aNil)) sNx)
    (sSeq (sIf (tPV2 cEq (.nm 0) (.ev (eC (.int 8)))) (sRaise 9 (aCons (eNm 1) aNil)) sNx)
    (sSeq (sIf (tPV2 cEq (.nm 0) (.ev (eC (.int 9)))) (sRaise 10 (aCons (eNm 1) aNil)) sNx)
    (sSeq (sIf (tPV2 cEq (.nm 0) (.ev (eC (.int 10)))) (sRaise 11 (aCons (eNm 1) aNil)) sNx)
    (sDo (eCall f__law_raise_more [(.nm 0), (.nm 1), (.nm 2)] [])))))))))))))
def f__law_raise_some : FF := mk [true, true, true] 3 b__law_raise_some
def b__law_marks : SF := (sSeq (sSet 1 (eLst (aCons (eT (tPV (isaX 21 [1]) (.nm 0))) (aCons (eT (tPV (isaX 21 [2]) (.nm 0))) (aCons (eT (tPV (isaX 21 [3]) (.nm 0))) (aCons (eT (tPV (isaX 21 [4]) (.nm 0))) aNil))))))
    (sSeq (sSet 1 (eP2 bAdd (.nm 1) (.ev (eLst (aCons (eT (tPV (isaX 21 [5]) (.nm 0))) (aCons (eT (tPV (isaX 21 [6]) (.nm 0))) (aCons (eT (tPV (isaX 21 [7]) (.nm 0))) (aCons (eT (tPV (isaX 21 [8]) (.nm 0))) aNil))))))))
    (sSeq (sSet 1 (eP2 bAdd (.nm 1) (.ev (eLst (aCons (eT (tPV (isaX 21 [9]) (.nm 0))) (aCons (eT (tPV (isaX 21 [10]) (.nm 0))) (aCons (eT (tPV (isaX 21 [11]) (.nm 0))) (aCons (eT (tPV (isaX 21 [12]) (.nm 0))) aNil))))))))
    (sSeq (sSet 1 (eP2 bAdd (.nm 1) (.ev (eLst (aCons (eT (tPV (isaX 21 [13]) (.nm 0))) (aCons (eT (tPV (isaX 21 [14]) (.nm 0))) (aCons (eT (tPV (isaX 21 [15]) (.nm 0))) (aCons (eT (tPV (isaX 21 [16]) (.nm 0))) aNil))))))))
    (sRet (eP2 bAdd (.nm 1) (.ev (eLst (aCons (eT (tPV (isaX 21 [17]) (.nm 0))) (aCons (eT (tPV (isaX 21 [18]) (.nm 0))) (aCons (eT (tPV (isaX 21 [19]) (.nm 0))) (aCons (eT (tPV (isaX 21 [20]) (.nm 0))) aNil))))))))))))
def f__law_marks : FF := mk [true] 2 b__law_marks
def b__law_fields_seen : SF := (sSeq (sSet 3 (eC .non))
    (sSeq (sTry 21 (sDo (eCall f__law_raise_some [(.nm 0), (.nm 1), (.nm 2)] [])) [([7], some 4, (sSet 3 (eLst (aCons (eP1 (xfld 7 0) (.nm 4)) aNil)))),
     ([8], some 4, (sSet 3 (eLst (aCons (eP1 (xfld 8 0) (.nm 4)) aNil)))),
     ([9], some 4, (sSet 3 (eLst (aCons (eP1 (xfld 9 0) (.nm 4)) aNil)))),
     ([10], some 4, (sSet 3 (eLst (aCons (eP1 (xfld 10 0) (.nm 4)) aNil)))),
     ([11], some 4, (sSet 3 (eLst (aCons (eP1 (xfld 11 0) (.nm 4)) aNil)))),
     ([12], some 4, (sSet 3 (eLst (aCons (eP1 (xfld 12 0) (.nm 4)) aNil)))),
     ([13], some 4, (sSet 3 (eLst (aCons (eP1 (xfld 13 0) (.nm 4)) aNil)))),
     ([14], some 4, (sSet 3 (eLst (aCons (eP1 (xfld 14 0) (.nm 4)) aNil)))),
     ([15], some 4, (sSet 3 (eLst (aCons (eP1 (xfld 15 0) (.nm 4)) aNil)))),
     ([16], some 4, (sSet 3 (eLst (aCons (eP1 (xfld 16 1) (.nm 4)) (aCons (eP1 (xfld 16 0) (.nm 4)) aNil))))),
     ([17], some 4, (sSet 3 (eLst (aCons (eP1 (xfld 17 0) (.nm 4)) aNil)))),
     ([18], some 4, (sSet 3 (eLst (aCons (eP1 (xfld 18 0) (.nm 4)) aNil)))),
     ([19], some 4, (sSet 3 (eLst (aCons (eP1 (xfld 19 0) (.nm 4)) aNil)))),
     ([20], some 4, (sSet 3 (eLst (aCons (eP1 (xfld 20 0) (.nm 4)) aNil)))),
     ([0, 1, 2, 3, 4, 5, 6, 7, 8, 9, 10, 11, 12, 13, 14, 15, 16, 17, 18, 19, 20], none, (sSet 3 (eLst aNil)))])
    (sRet (eMv 3))))
def f__law_fields_seen : FF := mk [true, true, true] 5 b__law_fields_seen
def b__law_way_right : SF := (sSeq (sPar2 3 4 (aCons (eLst aNil) (aCons (eC (.bl false)) aNil)))
    (sSeq (sTry 21 (sDo (eCall f__law_raise_some [(.nm 0), (.nm 1), (.nm 2)] [])) [([0, 1, 2, 3, 4, 5, 6, 7, 8, 9, 10, 11, 12, 13, 14, 15, 16, 17, 18, 19, 20], some 5, (sSeq (sSet 3 (eCall (nE f__law_marks) [(.nm 5)] []))
    (sSet 4 (eT (tPV (isaX 21 [0, 1, 2, 3, 4, 5, 6, 7, 8, 9, 10, 11, 12, 13, 14, 15, 16, 17, 18, 19, 20]) (.nm 5))))))])
    (sSeq (sSet 6 (eIf (tOr (tPV2 cLt (.nm 0) (.ev (eC (.int 6)))) (tPV2 cEq (.nm 0) (.ev (eC (.int 20))))) (eLst aNil) (eSl (.ev (eLst (aCons (eNm 1) (aCons (eNm 2) aNil)))) none (some (eP2 bAdd (.ev (eC (.int 1))) (.ev (eP1 fInt (.ev (eT (tPV2 cEq (.nm 0) (.ev (eC (.int 15)))))))))))))
    (sSeq (sIf (tNot (tE (eCall (f__law_like 6) [(.ev (eCall f__law_fields_seen [(.nm 0), (.nm 1), (.nm 2)] [])), (.nm 6)] []))) (sRet (eC (.bl false))) sNx)
    (sRet (eAnd (tE (eNm 4)) (eT (tPV2 cEq (.nm 3) (.ev (eComp [7] (iRange1 (eC (.int 20))) (bN 7) tYes (eT (tPV2 cEq (.nm 7) (.nm 0)))))))))))))
def f__law_way_right : FF := mk [true, true, true] 8 b__law_way_right
def b_law : SF := (sSeq (sFor (iRange1 (eP2 fMax2 (.ev (eC (.int 1))) (.ev (eP2 fMin2 (.ev (eP1 fLen (.nm 0))) (.ev (eC (.int 10))))))) (bN 1) (sSeq (sSet 2 (eCall f__law_spool [(.nm 0), (.nm 1)] []))
    (sIf (tNot (tE (eP1 fAll (.ev (eComp [3] (iRange1 (eC (.int 21))) (bN 3) tYes (eCall f__law_way_right [(.nm 3), (.ev (eCall f__law_thing [(.nm 2)] [])), (.ev (eCall f__law_thing [(.nm 2)] []))] [])))))) (sRet (eC (.bl false))) sNx)))
    (sRet (eC (.bl true))))
def f_law : FF := mk [true] 4 b_law
end Law
namespace Tr
open PySem
end Tr
namespace Tr
open PySem PySem.Spec PyProof.Rows L2
end Tr
namespace Tr
open PySem PySem.Spec PyProof.Rows L2
end Tr
namespace Tr
open PySem PySem.Spec PyProof.Rows L2
structure Sw (F : AS) (d : Addr) (kvs : List (Key × V)) (H H2 : Hp) : Prop where
  off : ∀ p, p ≠ d → H2 p = H p
  inF : F d
  h1 : Rd H d (.dK kvs)
  h2 : Rd H2 d (.dK kvs)
theorem Sw.sym {F : AS} {d : Addr} {kvs : List (Key × V)} {H H2 : Hp} (s : Sw F d kvs H H2) : Sw F d kvs H2 H := ⟨fun p n => (s.off p n).symm, s.inF, s.h2, s.h1⟩
section
variable {c : RC} {F F' A : AS} {d : Addr} {kvs : List (Key × V)} {H H2 : Hp}
theorem Sw.some (s : Sw F d kvs H H2) {p : Addr} {o : HO} (h : H p = some o) : ∃ o', H2 p = some o' := by
  by_cases e : p = d
  · subst e
    rcases s.h2 with q | ⟨q0, q⟩ <;> exact ⟨_, q⟩
  · exact ⟨o, by rw [s.off p e]; exact h⟩
theorem Sw.none (s : Sw F d kvs H H2) {p : Addr} (h : H2 p = none) : H p = none := by
  cases q : H p with
  | none => rfl
  | some o => obtain ⟨o', q'⟩ := s.some q; rw [h] at q'; cases q'
end
end Tr
namespace Tr
open PySem PySem.Spec PyProof.Rows L2
section
variable {c : RC} {W : WX} {H : Hp} {F A : AS}
def DcL (c : RC) (d : Addr) (od : Obj) (ks : List Key) (xs : List PV) (us : List V) (H : Hp) (F : AS) : Prop := H d = some (.frz od (.dK (ks.zip us))) ∧ F d ∧ Rs c H F xs us Emp
theorem DcL.step {d : Addr} {od : Obj} {ks : List Key} {xs : List PV} {us : List V} {H' : Hp} {F' A' : AS} (h : DcL c d od ks xs us H F) (g : Good H F A) (s : Stp H F A H' F' A') : DcL c d od ks xs us H' F' :=
  ⟨s.keep _ _ h.1 fun x => (g.own _ x).1 h.2.1, s.mono _ h.2.1, Rs.step g s h.2.2 Dis.empl⟩
end
end Tr
namespace Tr
open PySem PySem.Spec PyProof.Rows L2
end Tr
namespace Tr
open PySem PySem.Spec L2
end Tr
namespace Tr
open PySem PySem.Spec PyProof.Rows L2 PpSet
end Tr
namespace Tr
open PySem PySem.Spec L2
end Tr
namespace Tr
open PySem PySem.Spec PyProof.Rows L2
end Tr
namespace Tr
open PySem PySem.Spec PyProof.Rows L2
section
variable {c : RC} {H H' : Hp} {F A : AS}
theorem write_slotD {σ : L2.St} {e : AS} {ρ : Env} {i : Nat} {p : Addr} {a : AS} {ks : List Key} {ys : List PV} {ws : List V} (g : Good H F (Uni a e)) (d : Dis a e) (re : RE c H F (ρ.set i none) σ e) (hx : σ[i]? = some (some (.ref p))) (ap : a p)
    (rs : Rs c H F ys ws Emp) (hl : ks.length = ys.length) (l : ys.length ≤ big) : Stp H F (Uni a e) (upd H p (.dK (ks.zip ws))) F (Uni a e) ∧ Good (upd H p (.dK (ks.zip ws))) F (Uni a e) ∧ RE c (upd H p (.dK (ks.zip ws))) F (ρ.set i (some (.dct true ks ys))) σ (Uni a e) := by
  have gp : Good H F (fun q => q = p) := g.sub fun q z => by rw [z]; exact .inl ap
  have sp : Stp H F (fun q => q = p) (upd H p (.dK (ks.zip ws))) F (fun q => q = p) := Stp.put rfl
  have re2 := re.step gp sp (fun q y z => d p ap (by rw [← z]; exact y))
  have rs2 := rs.step gp sp Dis.empl
  refine ⟨Stp.put (.inl ap), g.put (.inl ap) trivial, ?_⟩
  have := RE.put re2 hx (show R c (upd H p (.dK (ks.zip ws))) F (.dct true ks ys) (.ref p) a from ⟨p, ws, Emp, rfl, ⟨hl, l⟩, upd_same, ap, id, Sub.emp, rs2⟩) d
  rwa [List.set_set] at this
end
section
variable {X : Cx} {c : RC} {W : WX} {k : Nat} {fx : Nat → Bool} {i : Nat} {x : Str} {e : Expr} {f : EF} {pos p : Pos}
theorem ss_putD {ek : Expr} {fk : EF} {tp : Pos} (Dk' : Ds X c) (hv : PE X (.Name x p) (tVar i)) (h : SE X c W e f) (hk : SE X c W ek fk)
    (ha : ∀ v, assign (.Subscript (.Name x p) ek tp) X.env v = (do
      let ov ← holding [v] (eval (.Name x p) X.env)
      let iv ← holding [v, ov] (eval ek X.env)
      standAt tp
      holding [v, ov, iv] (setItem ov iv v)
      release [v, ov, iv] []) := by intro _; rfl)
    (hs : swapsWithSole [.Subscript (.Name x p) ek tp] e pos.line X.env = pure false := by rfl) (hw : swappedStores [.Subscript (.Name x p) ek tp] e X.env = pure none := by rfl)
    (h1 : (assignEach [.Subscript (.Name x p) ek tp] X.env).map (·.2) = [assign (.Subscript (.Name x p) ek tp) X.env] := by rfl) :
    SS c W fx X (.Assign [.Subscript (.Name x p) ek tp] e pos) (sPutD i fk f) := by
  refine PS.weak (ps_asg h (pg_sub hv hk (set_dict (by have := Dk'.un; omega)) ha) hs hw h1) fun D σ H q => ?_
  refine tS.expr (rel := relE c) q fun v y ρ1 H1 F1 a e g1 d r re1 p1 => ?_
  cases q0 : slot ρ1 i with
  | none => simp only [q0] at p1; exact p1.elim
  | some u0 =>
    simp only [q0] at p1
    obtain ⟨x0, b0, h1, _, h3⟩ := re1.look q0
    refine ⟨x0, h1, ?_⟩
    refine ⟨ρ1, F1, e, g1.sub Sub.r, re1, ?_⟩
    have all : ∀ {H2 : Hp} {F2 A2 : AS}, Stp H1 F1 e H2 F2 A2 → Stp H1 F1 (Uni a e) H2 F2 (Uni a A2) := fun s => s.frame
    cases q1 : fk ρ1 with
    | bad => simp only [q1] at p1; exact p1.elim
    | er z ρ2 =>
      simp only [q1] at p1
      intro cls dd H2 F2 e2 s g2 rx re2
      exact p1 cls dd σ H2 F2 e2 ((all s).drop Sub.r) g2 rx re2 Keep.refl
    | ok kv ρ2 =>
      simp only [q1] at p1
      intro kx H2 F2 a2 e2 s g2 d2 rk re2
      have r2 := R.step (g1.sub Sub.r) s r d
      have p2 := PostS.base p1 (all s) Keep.refl
      cases q2 : slot ρ2 i with
      | none => simp only [sOf_ok, q2] at p2; exact p2.elim
      | some u =>
        simp only [sOf_ok, q2] at p2
        split at p2
        · rename_i ks xs kk eu ek
          cases eu
          split at p2
          · rename_i fxs
            split at p2
            · rename_i fv
              split at p2
              · rename_i lt
                obtain ⟨x1, bb, dd, k1, k2, k3, k4, k5, k6⟩ := re2.take q2
                rw [h1] at k1; cases k1
                obtain ⟨pp, vs, a', rfl, ⟨l0, l1⟩, hp, m, n, t, rs⟩ := k5
                have rs' := rs.emp fxs
                have rv := R.emp r2 fv
                have ekx := key_V rk ek
                subst ekx
                have hlz : (ks.zip vs).length < sizeLine := by rw [List.length_zip, rs.len, l0, Nat.min_self]; exact lt
                refine ⟨pp, _, rfl, DPut.k hp hlz, ?_⟩
                have gg : Good H2 F2 (Uni bb dd) := g2.sub (Sub.uni (k2.trans Sub.r) (k3.trans Sub.r))
                have kv := l0.trans rs.len.symm
                rw [putK_zip kk y kv]
                have le := putVs_le kk v l0
                obtain ⟨s3, g3, e3⟩ := write_slotD gg k4 k6 h1 m (Rs.put kk rv l0 rs') (putKs_len kk v l0) (by omega)
                exact (PostS.sub p2 (Sub.uni (k2.trans (Sub.r.trans Sub.r)) (k3.trans (Sub.r.trans Sub.r)))) σ _ F2 _ s3 g3 e3 Keep.refl
              · exact p2.elim
            · exact p2.elim
          · exact p2.elim
        · exact p2.elim
end
section
variable {X : Cx} {c : RC} {W : WX} {k : Nat} {elt kx vx : Expr} {ifs : List Expr} {scope : Scope} {own : List (Str × Nat)} {pos apos cpos p tpos : Pos} {b : BF} {tst : TF} {f gf : EF} {i kk : Nat} {x : Str} {elts : List Expr}
theorem PS.or {e : Stmt} {t t' : TS} (h : PS X e t) (h' : PS X e t') : PS X e (fun D σ H => t D σ H ∨ t' D σ H) := ⟨fun pins s σ H D I q => q.elim (h.run pins s σ H D I) (h'.run pins s σ H D I)⟩
end
end Tr
namespace Tr
open PySem PySem.Spec L2
section
variable {X : Cx} {c : RC} {W : WX} {fx : Nat → Bool} {tg : Expr} {ts : List Expr} {b : BF} {bs : List BF} {pos : Pos}
theorem PG.or {t t' : TG} (h : PG X tg t) (h' : PG X tg t') : PG X tg (fun v σ H Q => t v σ H Q ∨ t' v σ H Q) := ⟨fun pins s σ H v u Q I r q => q.elim (h.run pins s σ H v u Q I r) (h'.run pins s σ H v u Q I r)⟩
end
end Tr
namespace Tr
open PySem PySem.Spec PyProof.Rows L2
end Tr
namespace Tr
open PySem PySem.Spec L2
namespace Ev
variable {ρ : Env} {xs : List PV} {w : Bool}
@[simp] theorem eIdxL_eq {a b : Opd} : eIdxL a b ρ = match a.go ρ with
    | .ok t ρ1 => if (a.get t ρ1).any isLstP = true then o2b a b bIdxL t (b.go ρ1) else .bad
    | .er e ρ1 => .er e ρ1
    | .bad => .bad := by
  unfold eIdxL op2g
  cases a.go ρ with
  | ok t ρ1 =>
    simp only [Res.bind_ok]
    split
    · unfold o2b; cases b.go ρ1 <;> rfl
    · rfl
  | er => rfl
  | bad => rfl
@[simp] theorem isLst_l : isLstP (.lst w xs) = true := (rfl)
end Ev
end Tr
namespace SrtH
open PySem PyProof.Rows Srt SrtO
def IsHd (h : Heap) (v : Value) (x : Int) : Prop := ∃ a o t w n, v = .ref a ∧ h.get? a = some o ∧ o.cls = .type "tuple" ∧ o.data = .seq #[.int x t, w] n
theorem IsHd.keeps {h h' : Heap} {v : Value} {x : Int} (p : IsHd h v x) (k : ∀ b o, h.get? b = some o → o.cls = .type "tuple" → h'.get? b = some o) : IsHd h' v x := by
  obtain ⟨a, o, t, w, n, e, ho, hc, hd⟩ := p
  exact ⟨a, o, t, w, n, e, k _ _ ho hc, hc, hd⟩
end SrtH
namespace Tr
open PySem PySem.Spec PyProof.Rows L2
end Tr
namespace Tr
open PySem PySem.Spec L2
end Tr
namespace Tr
open PySem PySem.Spec PyProof.Rows L2
end Tr
namespace Tr
open PySem PySem.Spec L2
section
variable {X : Cx} {c : RC} {W : WX} {pos : Pos} {f g : EF} {r : PF}
def relP (c : RC) : Hp → AS → List (Key × PV) → List (V × V) → AS → Prop := fun H F v ps _ =>
  ∃ kvs : List (Key × V), ps = kvs.map (fun q => (kV q.1, q.2)) ∧ kvs.map (·.1) = v.map (·.1) ∧ Rs c H F (v.map (·.2)) (kvs.map (·.2)) Emp
def SPs (X : Cx) (c : RC) (W : WX) (pos : Pos) (ks : List (Option Expr)) (vs : List Expr) (r : PF) : Prop :=
  ∃ trs, PPs X pos ks vs trs ∧ (∀ σ H Q, tG c W (relP c) r σ H Q → tPairs trs σ H Q) ∧ ks.all (·.isSome) = true ∧ ks.length = vs.length
theorem sp_nil : SPs X c W pos [] [] pNil :=
  ⟨[], pps_nil, fun σ H Q q => by
    obtain ⟨ρ, F, A, g, e, p⟩ := q
    exact p.now g (Sub.refl _) ⟨[], rfl, rfl, rfl⟩ e, rfl, rfl⟩
theorem sp_cons {k v : Expr} {ks : List (Option Expr)} {vs : List Expr} (hk : SE X c W k f) (hv : SE X c W v g) (h : SPs X c W pos ks vs r) : SPs X c W pos (some k :: ks) (v :: vs) (pCons f g r) := by
  obtain ⟨trs, hp, hq, ha, hn⟩ := h
  refine ⟨(tEx c W f, tEx c W g) :: trs, pps_cons hk hv hp, fun σ H Q q => ?_, by rw [List.all_cons, ha]; rfl, by rw [List.length_cons, List.length_cons, hn]⟩
  · refine tG.bind q fun kv x ρ1 H1 F1 a b g1 d r1 e1 p1 => ?_
    refine tG.next (rel := relE c) (t := Emp) (b := b) g1 Sub.emp Sub.r Dis.empl e1 p1 fun v y ρ2 H2 F2 a2 b2 g2 _ d2 r2 e2 s2 p2 => ?_
    cases hkk : keyP kv with
    | none => simp only [hkk] at p2; exact p2.elim
    | some kk =>
      simp only [hkk] at p2
      split at p2
      · rename_i hf
        have ek := key_V r1 hkk
        subst ek
        have r3 := r2.emp hf
        refine hq _ _ _ ?_
        refine tG.next (rel := relP c) (t := Emp) (b := b2) g2 Sub.emp (Sub.r.trans Sub.r) Dis.empl e2 p2 fun ps zs ρ3 H3 F3 a3 b3 g3 _ d3 r4 e3 s3 p3 => ?_
        obtain ⟨kvs, h1, h2, h3⟩ := r4
        have r5 := r3.step (g2.sub (Sub.r.trans Sub.r)) s3 Dis.empl
        refine p3.now g3 (Sub.r.trans Sub.r) ⟨(kk, y) :: kvs, by rw [h1]; rfl, by rw [List.map_cons, List.map_cons, h2], ?_⟩ e3
        exact ⟨y, kvs.map (·.2), Emp, Emp, rfl, Sub.emp, Sub.emp, Dis.empl, r5, h3⟩
      · exact p2.elim
theorem e_disp {ks : List (Option Expr)} {vs : List Expr} (h : SPs X c W pos ks vs r) (h0 : ks ≠ [] := by decide) (h15 : ks.length ≤ 15 := by decide) : SE X c W (.Dict ks vs pos) (eDisp r) := by
  obtain ⟨trs, hp, hq, ha, hn⟩ := h
  refine PE.weak (pe_disp hp ha hn h0 h15) fun σ H Q q D hD => hq _ _ _ ?_
  obtain ⟨ρ, F, A, g0, e0, p0⟩ := q
  have nD : ∀ q, A q → q ≠ D := fun q y z => by
    obtain ⟨_, o, eo, _⟩ := g0.own q y
    rw [z, hD] at eo; cases eo
  have gn := g0.new hD (o := HO.dK []) trivial
  have en : RE c (upd H D (.dK [])) F ρ σ A := e0.step (g0.sub Sub.emp) (Stp.newT (A := Emp) hD) Dis.empr
  have pn := Post.base p0 (Stp.new (A := A) (o := HO.dK []) hD)
  refine tG.next (rel := relP c) (t := fun q => q = D) (b := A) gn Sub.r Sub.l (fun q y z => nD q z y) en pn fun ps zs ρ1 H1 F1 a1 b1 g1 dT1 d1 r1 e1 s1 p1 => ?_
  have hD1 : H1 D = some (.dK []) := s1.keep D _ upd_same (fun z => nD D z rfl)
  obtain ⟨kvs, h1, h2, h3⟩ := r1
  have lk : kvs.length = ps.length := by have := congrArg List.length h2; rw [List.length_map, List.length_map] at this; exact this
  split at p1
  · rename_i hl
    refine ⟨hD1, kvs, h1, by omega, ?_⟩
    obtain ⟨ks', vs', us', q1, q2, q3, q4, q5⟩ := mrg_rel (ks := []) (vs := []) (us := []) h2 h3 rfl rfl
    rw [q1] at p1
    have e0 : mergeK [] kvs = ks'.zip us' := q3
    rw [e0]
    have hb : vs'.length ≤ big := by rw [List.length_nil] at q5; exact Nat.le_trans q5 (by unfold big; omega)
    have inD : Uni (fun q => q = D) (Uni a1 b1) D := .inl rfl
    have gS := g1.put (o := .dK (ks'.zip us')) inD trivial
    have pS := Post.base p1 (Stp.put (o := .dK (ks'.zip us')) inD)
    have gt : Good H1 F1 (fun q => q = D) := g1.sub Sub.l
    have st1 : Stp H1 F1 (fun q => q = D) (upd H1 D (.dK (ks'.zip us'))) F1 (fun q => q = D) := Stp.put rfl
    have db : Dis b1 (fun q => q = D) := fun q y z => dT1 q z (.inr y)
    have e2 := e1.step gt st1 db
    have r2 := q4.step gt st1 Dis.empl
    refine pS.own gS (a := fun q => q = D) (b := b1) Sub.l (Sub.r.trans Sub.r) (fun q y z => db q z y) ?_ e2
    exact ⟨D, us', Emp, rfl, ⟨q2, hb⟩, upd_same, rfl, id, Sub.emp, r2⟩
  · exact p1.elim
end
end Tr
namespace Tr
open PySem PySem.Spec L2
section
variable {X : Cx} {c : RC} {W : WX} {k : Nat} {pos pos' pos2 p p2 : Pos} {a : Expr} {oa : Opd} {fx : Nat → Bool}
def okStr (K : PySem.W.Frag) (x : V) (H : Hp) : Prop := x = .non ∨ (∃ b, x = .bl b) ∨ (∃ s, x = .str s) ∨ (∃ i, x = .int i ∧ i.natAbs.log2 < 1920) ∨
  ∃ q d, x = .ref q ∧ Dp K H (.ref q) d ∧ d.showable = true ∧ d.hasDict = false ∧ d.depth ≤ 20 ∧ d.shown.length ≤ sizeLine
def rStr (K : PySem.W.Frag) : List V → Hp → VK → Prop := fun xs H Q => ∃ x, xs = [x] ∧ okStr K x H ∧ ∀ s, Q (.str s) H
theorem cr_str (hg : X.A.guards = some []) (hu : X.A.units + 64 < cLine) : CallR X (.type "str") (rStr X.K) := by
  intro pins s σ H vs us Q I r h
  obtain ⟨x, rfl, ho, hq⟩ := h
  rcases ho with rfl | ⟨b, rfl⟩ | ⟨y, rfl⟩ | ⟨i, rfl, hz⟩ | ⟨q, d, rfl, hd, hs, hdi, hdp, hz⟩
  · obtain ⟨u, rfl, r1⟩ := vals1 r
    cases r1
    exact PySem.P.str_of_none ⟨.str _, H, I.tok _, ⟨_, rfl⟩, hq _⟩
  · obtain ⟨u, rfl, r1⟩ := vals1 r
    cases r1
    exact PySem.P.str_of_bool ⟨.str _, H, I.tok _, ⟨_, rfl⟩, hq _⟩
  · obtain ⟨u, rfl, t, rfl⟩ := vals1 r
    exact PySem.P.str_of_str ⟨.str y, H, I, ⟨t, rfl⟩, hq _⟩
  · obtain ⟨u, rfl, t, rfl⟩ := vals1 r
    exact PySem.P.str_of_int hz ⟨.str _, H, I.tok _, ⟨_, rfl⟩, hq _⟩
  · obtain ⟨as, rd⟩ := Dp.reads I d _ (Value.ref q) hd rfl
    rw [Vals.ref1 r]
    exact str_of_reads rd hs (fun e => by rw [hdi] at e; cases e) hg (by omega) (fun _ _ e => e) (fun h' u tk hk => ⟨.str d.shown, H, I.kept hk, ⟨_, rfl⟩, hq _⟩) hz
theorem k_strN : K1 c (fun v H Q => rStr c.K [v] H fun _ H2 => Q .non H2) fStrN := by
  intro v z x H F Q A g r k q
  unfold fStrN at k
  split at k
  · rename_i hs
    cases k
    refine ⟨x, rfl, ?_, fun s => q.now g rfl⟩
    have go : (∃ a, x = .ref a) → strP v = true → okStr c.K x H := fun ⟨a, ea⟩ h => by
      unfold strP at h
      simp only [Bool.and_eq_true, decide_eq_true_eq] at h
      obtain ⟨d1, d2, d3⟩ := R.dp deep h.1.1.1 r
      subst ea
      refine .inr (.inr (.inr (.inr ⟨a, toPD v, rfl, d1, h.1.1.2, toPD_dict, d3, ?_⟩)))
      have h2 := PyData.shown_le 13 (by decide) (toPD v) (PyData.leavesShort_of_canLay0 13 _ d2 h.1.2)
      rw [sizeLine_eq]
      omega
    cases v with
    | non => exact .inl r
    | bl b => exact .inr (.inl ⟨b, r⟩)
    | str y => exact .inr (.inr (.inl ⟨y, r.1⟩))
    | int i => exact .inr (.inr (.inr (.inl ⟨i, r, of_decide_eq_true hs⟩)))
    | lst w xs => exact go (by obtain ⟨p, _, _, e, _⟩ := r.lstR; exact ⟨p, e⟩) hs
    | tup xs => exact go (by obtain ⟨p, _, e, _⟩ := r.tupR; exact ⟨p, e⟩) hs
    | _ => cases hs
  · cases k
theorem e_raise1t {j : Nat} {x : Str} {bmB : List Value} {B newId initId : String} (D : Dk X c W k) (T : XT X.K X.mg c j x) (F : ExcBaseFacts B newId initId bmB) (q : PySem.W.excIn X.K (c.cA j) bmB newId = true) (hg : Gl X x)
    (hm : X.mg "str" = none) (hgs : Gl X "str") (ha : SO X c W a oa) (st : starEach [a] X.env = (false, eval a X.env) :: starEach [] X.env := by rfl) (he : (backTo pos2 (starEach [] X.env)).any (·.1) = false := by rfl)
    (hs : starEach [(.Call (.Name "str" p2) [a] [] pos2)] X.env = (false, eval (.Call (.Name "str" p2) [a] [] pos2) X.env) :: starEach [] X.env := by rfl) (hdb : (x == ("__debug__" : Str)) = false := by decide) :
    SS c W fx X (.Raise (some (.Call (.Name x p) [.Call (.Name "str" p2) [a] [] pos2] [] pos)) none pos') (sRaise0 j (aCons (eP1 fStrN oa) aNil)) :=
  ss_raise0 (te := fun σ H Q => tO c W oa σ H fun x H1 => rStr c.K [x] H1 Q) D T
    (SkE.pmk_own1 F q T.mg T.kp (raises_own T.sub T.ty) hg (pe_callTy (T := "str") (r := rStr c.K) (D.K ▸ cr_str D.gd D.hr.units) hgs hm (by decide +kernel) (pa_cons ha pa_nil st) (by decide) (by decide) st he) hs hdb) fun σ H Q h => by
    have h1 : tEx c W (eP1 fStrN oa) σ H fun _ H1 => Q H1 := by
      refine tG.bind (rel' := relL c) (g := fun v ρ1 => (aNil ρ1).bind fun vs ρ2 => .ok (v :: vs) ρ2) h fun v x ρ1 H1 F1 a b g d r e p => ?_
      exact Post.own p g Sub.l Sub.r d (show relL c H1 F1 [v] [x] a from Rs.one r) e
    exact one_k k_strN h1
end
end Tr
namespace Tr
open PySem PySem.Spec PyProof.Rows L2
def noX : CXT := fun _ _ _ _ _ _ => False
structure FnS (P : Program) (w : World) (K : PySem.W.Frag) (mg : Str → Option Value) (base : Heap) (k : Nat) (f : Addr) (fd : FuncData) (ps : List Str) (sp : Sp) : Prop where
  len : ∀ vs H Q E, sp vs H Q E → vs.length = ps.length
  run : ∀ (Y : Around) (a : Addr), Y.guards = some [] → ∀ (outer : List PySem.Env) (s : Shared) (H : Hp) (args : Args) (us : List Value) (vs : List V) (Q : VK) (E : XK), Room k Y → Env0 P w K mg base Y outer s H → BindsTo s fd args (ps.zip us) → Vals vs us → sp vs H Q E →
    codeAny (model P w) (Y.mark (some (.ref a))) (.call (.ref f) args) (CR noX outer P w H s Q E) s
section
variable {P : Program} {w : World} {K : PySem.W.Frag} {mg : Str → Option Value} {base : Heap}
theorem Fun.okS {x qual : Str} {st : Stmt} {f : Addr} {fd : FuncData} {N ps : List Str} {k : Nat} {sp : Sp} (F : Fun K x qual st f fd) (S : FnScope N ps (defScope st)) (len : ∀ vs H Q E, sp vs H Q E → vs.length = ps.length)
    (hb : ∀ (cdv : Value) (A : Around) (a : Addr) (outer : List PySem.Env) (s : Shared) (H : Hp) (vs : List V) (Q : VK) (E : XK), A.guards = some [] → Room k (A.deeper (envOfC qual (defScope st) s.heap.objs.size f cdv)) → sp vs H Q E →
      ∃ t, PSs ((cxOf (L2.CX P w) P w K mg base N qual (defScope st) f cdv A outer s H E).suite a []) (defBody st) t ∧ t { nx := fun _ H' => Q .non H', rt := Q } (L2.start N vs) H) : FnS P w K mg base (k + 1) f fd ps sp := by
  obtain ⟨oc, od, kV, doc, pm, an, cdv, ct, osl, rfl, lk, hcd⟩ := F.ex
  refine ⟨len, fun A a gA outer s H args us vs Q E room env bind rel want => ?_⟩
  have n := len _ _ _ _ want
  have inK : K.In s.heap := env.mod.kin.keeps fun b o e => (env.bs b o e).1
  have nolim : s.heap.NoLimit := env.mod.nolimit.keeps fun b o e => (env.bs b o e).1
  have kinds : ∀ y ∈ ps.zip us, (defScope st).names.lookup y.1 = some .local ∨ ((defScope st).names.lookup y.1 = some .cell ∧ ((cellsFrom (s.heap.objs.size + 1) (defScope st).names []).lookup y.1).isSome = true) := fun y hy => (S.par y.1 (List.of_mem_zip (a := y.1) (b := y.2) hy).1).imp id fun q => ⟨q, PySem.W.cellsFrom_some _ _ _ (.inl q)⟩
  refine codeAny_call_function room.depth (inK _ _ lk) rfl S.co S.gen rfl (PySem.W.codeRec_of inK hcd) (bind _ _ _ _ (wpAny_newFunctionEnv_cells S.kind kinds fun env' e s1 x => ?_))
  subst e
  obtain ⟨t, ht, q⟩ := hb cdv A a outer s H vs Q E gA (room.deeper _) want
  have I0 : L2.Inv ((cxOf (L2.CX P w) P w K mg base N qual (defScope st) f cdv A outer s H E).suite a []) [] (L2.start N vs) H s1 := Inv.suite0 (inv_start (CX := L2.CX P w) (E := E) S room.hd env n rel x) a
  refine ⟨nolim.keeps x.toInCall.keep, codeAny_func (wpAny_mono (ht.run [] s1 (L2.start N vs) H _ I0 q) (fun fl s' a => ?_) fun e s' a => a.elim)⟩
  cases fl with
  | ret u => obtain ⟨v, σ', H', J, rv, q⟩ := a; exact ⟨v, H', J.os, J.bare, J.base, J.hok, rv, q⟩
  | next => obtain ⟨σ', H', J, q⟩ := a; exact ⟨V.non, H', J.os, J.bare, J.base, J.hok, rfl, q⟩
  | brk => obtain ⟨_, _, _, q⟩ := a; exact False.elim q
  | cont => obtain ⟨_, _, _, q⟩ := a; exact False.elim q
end
section
variable {P : Program} {w : World} {K : PySem.W.Frag} {mg : Str → Option Value} {base : Heap} {c : RC}
theorem ok_defS {x qual : Str} {st : Stmt} {f : Addr} {fd : FuncData} {N ps : List Str} {k : Nat} {sem : SF} (fx : List Bool) (hK : K = c.K) (Fn : Fun K x qual st f fd) (S : FnScope N ps (defScope st)) (hl : fx.length = ps.length) (hN : ps.length ≤ N.length)
    (body : ∀ (X : Cx) (W : WX), (∃ cdv A outer s H E, X = cxOf (L2.CX P w) P w K mg base N qual (defScope st) f cdv A outer s H E) → Dk X c W k → ∀ a pn, SSs c W0 (fxOf fx) (X.suite a pn) (defBody st) sem) :
    FnS P w K mg base (k + 1) f fd ps (spF c ps.length (nE (mk fx N.length sem))) := by
  refine Fun.okS Fn S (fun vs H Q E h => h.1) fun cdv A a outer s H vs Q E gA hr h => ?_
  obtain ⟨l, as, F, A0, g, r, p⟩ := h
  refine ⟨_, body _ (fun cls d _ H' => E cls d H') ⟨cdv, A, outer, s, H, E, rfl⟩ ⟨hK, hr, rfl, S.nd, takes_of rfl rfl rfl rfl, passes_of rfl, gA⟩ a [], ?_⟩
  have las : as.length = vs.length := by rw [r.len]
  have est : L2.start N vs = vs.map some ++ List.replicate (N.length - fx.length) none := by
    unfold L2.start
    rw [l, hl]
  refine ⟨as.map some ++ List.replicate (N.length - fx.length) none, F, A0, g, by rw [est]; exact RE.start _ r, ?_⟩
  unfold nE mk at p
  rw [if_pos (by rw [las, l, hl])] at p
  have up : ∀ {H' : Hp} {F' b : AS}, Stp H F A0 H' F' b → ∀ (v : PV) (x : V), R c H F v x Emp → R c H' F' v x Emp := fun t v x q => q.step g t Dis.empl
  have kp : ∀ {σ' : L2.St}, Keep (fxOf fx) (L2.start N vs) σ' → ∀ i, fx.getD i false = true → σ'[i]? = (vs.map some)[i]? := fun {σ'} q i z => by
    rw [q.at_ i z, est]
    have hi : i < fx.length := by
      rcases Nat.lt_or_ge i fx.length with h | h
      · exact h
      · rw [List.getD_eq_getElem?_getD, List.getElem?_eq_none h] at z; cases z
    rw [List.getElem?_append_left (by rw [List.length_map, l, ← hl]; exact hi)]
  have lv : vs.length = fx.length := by rw [l, hl]
  cases q : sem (as.map some ++ List.replicate (N.length - fx.length) none) with
  | nx ρ' =>
    simp only [q] at p
    intro σ' H' F' b t g1 e1 kk
    unfold fin at p
    cases o : outs fx as ρ' with
    | none => simp only [o] at p
    | some ws =>
      simp only [o] at p
      exact p .non H' F' Emp b (t.drop (Sub.uni Sub.emp (Sub.refl _))) (g1.sub (Sub.uni Sub.emp (Sub.refl _))) Dis.empl rfl (outs_ok o e1 (kp kk) r lv (up t))
  | rt v ρ' =>
    simp only [q] at p
    intro x σ' H' F' a b t g1 d rv e1 kk
    unfold fin at p
    cases o : outs fx as ρ' with
    | none => simp only [o] at p
    | some ws =>
      simp only [o] at p
      exact p x H' F' a b t g1 d rv (outs_ok o e1 (kp kk) r lv (up t))
  | er x ρ' =>
    simp only [q] at p
    unfold finE at p
    cases o : outs fx as ρ' with
    | none => simp only [o] at p
    | some ws => simp only [o] at p
  | bk ρ' => simp only [q] at p
  | ct ρ' => simp only [q] at p
  | bad => simp only [q] at p
def DefS (P : Program) (w : World) (K : PySem.W.Frag) (mg : Str → Option Value) (base : Heap) (c : RC) (k : Nat) (x : Str) (st : Stmt) (ps : List Str) (sem : FF) : Prop :=
  ∃ f fd, mg x = some (.ref f) ∧ Fun K x x st f fd ∧ Binds K fd ps [] ∧ FnS P w K mg base k f fd ps (spF c ps.length sem)
end
section
variable {X : Cx} {c : RC} {W : WX} {k j : Nat} {f a : Addr} {fd : FuncData} {ps : List Str} {sp : Sp} {x : Str} {p pos : Pos} {e : Expr} {es : List Expr} {t : TA} {pn : List (Addr × Obj)} {E : L2.St → XK} {st : Stmt} {sem : FF} {os : List Opd}
theorem pe_callS (F : FnS X.prog X.w X.K X.mg X.base k f fd ps sp) (gA : X.A.guards = some []) (hr : Room k X.A) (hg : Gl (X.suite a pn) x) (hm : X.mg x = some (.ref f)) (hk : PySem.W.keepIn X.K (.ref f) = true) (hb : Binds X.K fd ps [])
    (ha : PA (X.suite a pn) (e :: es) t) (hdb : (x == ("__debug__" : Str)) = false := by decide) (he : starEach (e :: es) X.env = (false, eval e X.env) :: starEach es X.env := by rfl) (hpl : (backTo pos (starEach es X.env)).any (·.1) = false := by rfl) :
    PE (X.suite a pn) (.Call (.Name x p) (e :: es) [] pos) (tCallSD sp [] E t) :=
  ⟨fun pins s σ H Q I h => wpAny_Call_Name_kw (ld_glob I hg hm (PySem.W.callWith_K (h₀ := X.base) I.ok.mod.kin hk (thn (ha.run pos pins s σ H _ I h) fun us s1 ⟨vs, H1, I1, r, q⟩ =>
    ⟨I1.kIn, by
      have q : sp vs H1 Q (E σ) := by have q2 : sp (vs ++ []) H1 Q (E σ) := q; rwa [List.append_nil] at q2
      have hl : us.length = ps.length := by rw [← r.length]; exact F.len _ _ _ _ q
      have b := hb s1 us I1.kIn (by rw [List.append_nil]; exact hl)
      rw [List.append_nil] at b
      have e0 : Env0 X.prog X.w X.K X.mg X.base X.A X.stack s1 H1 := by
        have e1 := I1.env0
        exact ⟨e1.frames, e1.mod, e1.bs, e1.bsz, e1.funs, e1.frf, e1.hok, e1.bare⟩
      refine wpAny_call (codeAny_mono (F.run X.A a gA X.stack s1 H1 ⟨us, []⟩ us vs Q (E σ) hr e0 b r q) fun r s' hq => ?_)
      cases r with
      | error e => exact False.elim hq
      | ok fl =>
        cases fl with
        | ret u => exact I1.after hq
        | next => exact False.elim hq
        | brk => exact False.elim hq
        | cont => exact False.elim hq⟩) he hpl) hdb)⟩
theorem e_callS (D : Dk X c W j) (G : DefS X.prog X.w X.K X.mg X.base c k x st ps sem) (hr : k ≤ j) (hg : Gl X x)
    (ha : SOs (X.suite a pn) c W0 (e :: es) os) (hn : os.length = ps.length) (hdb : (x == ("__debug__" : Str)) = false := by decide) (he : starEach (e :: es) X.env = (false, eval e X.env) :: starEach es X.env := by rfl) (hpl : (backTo pos (starEach es X.env)).any (·.1) = false := by rfl) :
    SE (X.suite a pn) c W0 (.Call (.Name x p) (e :: es) [] pos) (eCall sem os []) := by
  obtain ⟨f, fd, h1, h2, h3, h4⟩ := G
  exact PE.weak (pe_callS (E := fun σ cls d H' => W0 cls d σ H') h4 D.gd (D.hr.mono hr) hg h1 h2.kp h3 ha hdb he hpl) fun σ H Q q => call_q (dvs := []) (dps := []) (fun _ _ => rfl) (by rw [List.length_nil, Nat.add_zero]; exact hn) q
end
end Tr
namespace Tr
open PySem PySem.Spec PyProof.Rows L2
def ItzTT (K : PySem.W.Frag) (a b : Addr) : It where
  go i H := ∃ (xs ys : List V) (x y : V), SqT K H a xs ∧ SqT K H b ys ∧ xs[i]? = some x ∧ ys[i]? = some y
  yld i H v H' := ∃ T o x y, v = .ref T ∧ H T = none ∧ TB o ∧ H' = upd H T (.frz o (.tup [x, y])) ∧ (∀ xs, SqT K H a xs → xs[i]? = some x) ∧ ∀ ys, SqT K H b ys → ys[i]? = some y
  stop i H := ∃ xs ys : List V, SqT K H a xs ∧ SqT K H b ys ∧ i = min xs.length ys.length
abbrev ZStTT (a b z TI TO i1 i2 : Addr) (i : Nat) (h : Heap) : Prop := IsZip h z TI TO .none ∧ IsPair h TI (.ref i1) (.ref i2) ∧ (∃ x y, IsPair h TO x y) ∧ h.IsTupleIter i1 a i ∧ h.IsTupleIter i2 b i
theorem turn_zipTT {P : Program} {w : World} {K : PySem.W.Frag} {elts : List Expr} {kk : Nat} {tpos : Pos} {a b z TI TO i1 i2 : Addr} (D : ZipSep2 z TI TO i1 i2 [i1, a] [i2, b]) (n1 : a ≠ i1) (n2 : b ≠ i2) :
    Turn P w K (.Tuple elts kk tpos) (ItzTT K a b) [z, TI, TO, i1, i2] z (ZStTT a b z TI TO i1 i2) where
  mem := List.mem_cons_self
  obj := fun i h st c hc => by
    obtain ⟨hz, hTI, ⟨x, y, hTO⟩, ⟨o1, e1, _, d1⟩, ⟨o2, e2, _, d2⟩⟩ := st
    exact five (M := fun c => ∃ o, h.get? c = some o ∧ ∀ v, o.data ≠ .cell v) hc ⟨_, hz, fun v q => nomatch q⟩ ⟨_, hTI, fun v q => nomatch q⟩ ⟨_, hTO, fun v q => nomatch q⟩ ⟨o1, e1, fun v q => by rw [d1] at q; cases q⟩ ⟨o2, e2, fun v q => by rw [d2] at q; cases q⟩
  keep := fun i h h' st k => by
    obtain ⟨hz, hTI, ⟨x, y, hTO⟩, h1, h2⟩ := st
    exact ⟨k z (by simp) _ hz, k TI (by simp) _ hTI, ⟨x, y, k TO (by simp) _ hTO⟩, h1.at fun o q => k i1 (by simp) o q, h2.at fun o q => k i2 (by simp) o q⟩
  item := by
    intro X hP hw hK hc i pins s σ H E I hf st hg
    subst hP hw hK
    obtain ⟨hz, hTI, ⟨x0, y0, hTO⟩, h1, h2⟩ := st
    obtain ⟨xs, ys, x, y, hqx, hqy, hx, hy⟩ := hg
    obtain ⟨us1, rv, p, _⟩ := I.tuple hqx
    obtain ⟨us2, rv2, p2, _⟩ := I.tuple hqy
    obtain ⟨u, hu, ru⟩ := rv.get hx
    obtain ⟨u2, hu2, ru2⟩ := rv2.get hy
    have hzl : z < s.heap.objs.size := Heap.lt_size hz
    have hh : (X.A.in1).handled = none := I.ok.hd hc
    have b1 : i < us1.toArray.size := by have := (List.getElem?_eq_some_iff.mp hu).1; simpa using this
    have b2 : i < us2.toArray.size := by have := (List.getElem?_eq_some_iff.mp hu2).1; simpa using this
    refine wpAny_pyNext_zipD2_item D (Draws.tuple hh i1 a n1 us1.toArray) (Draws.tuple hh i2 b n2 us2.toArray) hz hTI hTO ⟨h1, p⟩ ⟨h2, p2⟩ b1 b2 fun x1 x2 h' tk e1 e2 z' TO' s1' s2' hT hsz hk => ⟨_, rfl, wpAny_letOwnedTupleGo_zip (s := { s with heap := h', toks := tk }) z' fun h'' z'' sb => ?_⟩
    obtain rfl : u = x1 := by
      have e1 : us1.toArray[i]? = some x1 := e1
      rw [show us1.toArray[i]? = us1[i]? by simp, hu] at e1; exact Option.some.inj e1
    obtain rfl : u2 = x2 := by
      have e2 : us2.toArray[i]? = some x2 := e2
      rw [show us2.toArray[i]? = us2[i]? by simp, hu2] at e2; exact Option.some.inj e2
    have at2 : h''.get? s.heap.objs.size = some (tupO #[u, u2]) := (sb.2 _ (Nat.ne_of_gt hzl)).trans hT
    have new : ObjOk X.prog X.w (upd H s.heap.objs.size (.frz (tupO #[u, u2]) (.tup [x, y]))) h'' s.heap.objs.size (.frz (tupO #[u, u2]) (.tup [x, y])) :=
      ⟨at2, (by decide : 2 ≤ sizeLine), [u, u2], .cons ru (.cons ru2 .nil), ⟨_, at2, rfl, _, rfl⟩⟩
    have I1 : L2.Inv X pins σ (upd H s.heap.objs.size (.frz (tupO #[u, u2]) (.tup [x, y]))) { s with heap := h'', toks := tk } :=
      I.turnedNew (t' := tk) (ch := [z, TI, TO, i1, i2]) (fun c o hb q => (sb.2 c (fun q' => hb (by simp [q']))).trans (hk c o (fun q' => hb (by simp [q'])) (fun q' => hb (by simp [q'])) (fun q' => hb (by simp [q'])) (fun q' => hb (by simp [q'])) q)) hf (Nat.le_refl _) new
    have m1 : i1 ≠ z := fun q => D.zf1 (by simp [q])
    have m2 : i2 ≠ z := fun q => D.zf2 (by simp [q])
    refine ⟨.ref s.heap.objs.size, _, I1, rfl, ⟨_, _, x, y, rfl, I.hok.fresh (Nat.le_refl _), tB _, rfl, fun l hl => by rw [I.tuple_inj hl hqx]; exact hx, fun l hl => by rw [I.tuple_inj hl hqy]; exact hy⟩, ⟨z'', (sb.2 _ D.TIz).trans (hk _ _ D.TIz D.TITO D.TIi1 D.TIi2 hTI), ⟨u, u2, (sb.2 _ D.TOz).trans TO'⟩, s1'.1.at fun o q => (sb.2 _ m1).trans q, s2'.1.at fun o q => (sb.2 _ m2).trans q⟩, fun c hcm => ?_⟩
    obtain ⟨_, e1, _⟩ := h1
    obtain ⟨_, e2, _⟩ := h2
    have lt : c < s.heap.objs.size := five (M := fun c => c < s.heap.objs.size) hcm hzl (Heap.lt_size hTI) (Heap.lt_size hTO) (Heap.lt_size e1) (Heap.lt_size e2)
    rw [upd_ne (Nat.ne_of_lt lt)]
    exact (hf c hcm).1
  done := by
    intro X hP hw hK hc i pins s σ H E I hf st hg
    subst hP hw hK
    obtain ⟨hz, hTI, ⟨x0, y0, hTO⟩, h1, h2⟩ := st
    obtain ⟨xs, ys, hqx, hqy, hend⟩ := hg
    obtain ⟨us1, rv, p, _⟩ := I.tuple hqx
    obtain ⟨us2, rv2, p2, _⟩ := I.tuple hqy
    have l1 := rv.length
    have l2 := rv2.length
    have hh : (X.A.in1).handled = none := I.ok.hd hc
    have b1 : i ≤ us1.toArray.size := by simp; omega
    have b2 : i ≤ us2.toArray.size := by simp; omega
    have b3 : i = us1.toArray.size ∨ i = us2.toArray.size := by simp; omega
    exact wpAny_pyNext_zipD2_end D (Draws.tuple hh i1 a n1 us1.toArray) (Draws.tuple hh i2 b n2 us2.toArray) hz hTI hTO ⟨h1, p⟩ ⟨h2, p2⟩ b1 b2 b3 fun h' tk hk => ⟨rfl, I.turnedL (t' := tk) (ch := [z, TI, TO, i1, i2]) (fun c o hb q =>
      hk c o (fun q' => hb (by simp [q'])) (fun q' => hb (by simp [q'])) (fun q' => hb (by simp [q'])) (fun q' => hb (by simp [q'])) q) hf⟩
  self := fun A i s Q E st h => wpAny_pyIter_zip st.1 h
def ItzTL (K : PySem.W.Frag) (a b : Addr) : It where
  go i H := ∃ (xs ys : List V) (x y : V), SqT K H a xs ∧ SqL K H b ys ∧ xs[i]? = some x ∧ ys[i]? = some y
  yld i H v H' := ∃ T o x y, v = .ref T ∧ H T = none ∧ TB o ∧ H' = upd H T (.frz o (.tup [x, y])) ∧ (∀ xs, SqT K H a xs → xs[i]? = some x) ∧ ∀ ys, SqL K H b ys → ys[i]? = some y
  stop i H := ∃ xs ys : List V, SqT K H a xs ∧ SqL K H b ys ∧ i = min xs.length ys.length
abbrev ZStTL (a b z TI TO i1 i2 : Addr) (i : Nat) (h : Heap) : Prop := IsZip h z TI TO .none ∧ IsPair h TI (.ref i1) (.ref i2) ∧ (∃ x y, IsPair h TO x y) ∧ h.IsTupleIter i1 a i ∧ h.IsListIter i2 b i
theorem turn_zipTL {P : Program} {w : World} {K : PySem.W.Frag} {elts : List Expr} {kk : Nat} {tpos : Pos} {a b z TI TO i1 i2 : Addr} (D : ZipSep2 z TI TO i1 i2 [i1, a] [i2, b]) (n1 : a ≠ i1) (n2 : b ≠ i2) :
    Turn P w K (.Tuple elts kk tpos) (ItzTL K a b) [z, TI, TO, i1, i2] z (ZStTL a b z TI TO i1 i2) where
  mem := List.mem_cons_self
  obj := fun i h st c hc => by
    obtain ⟨hz, hTI, ⟨x, y, hTO⟩, ⟨o1, e1, _, d1⟩, ⟨o2, e2, _, d2⟩⟩ := st
    exact five (M := fun c => ∃ o, h.get? c = some o ∧ ∀ v, o.data ≠ .cell v) hc ⟨_, hz, fun v q => nomatch q⟩ ⟨_, hTI, fun v q => nomatch q⟩ ⟨_, hTO, fun v q => nomatch q⟩ ⟨o1, e1, fun v q => by rw [d1] at q; cases q⟩ ⟨o2, e2, fun v q => by rw [d2] at q; cases q⟩
  keep := fun i h h' st k => by
    obtain ⟨hz, hTI, ⟨x, y, hTO⟩, h1, h2⟩ := st
    exact ⟨k z (by simp) _ hz, k TI (by simp) _ hTI, ⟨x, y, k TO (by simp) _ hTO⟩, h1.at fun o q => k i1 (by simp) o q, h2.at fun o q => k i2 (by simp) o q⟩
  item := by
    intro X hP hw hK hc i pins s σ H E I hf st hg
    subst hP hw hK
    obtain ⟨hz, hTI, ⟨x0, y0, hTO⟩, h1, h2⟩ := st
    obtain ⟨xs, ys, x, y, hqx, hqy, hx, hy⟩ := hg
    obtain ⟨us1, rv, p, _⟩ := I.tuple hqx
    obtain ⟨us2, rv2, p2, _⟩ := I.list hqy
    obtain ⟨u, hu, ru⟩ := rv.get hx
    obtain ⟨u2, hu2, ru2⟩ := rv2.get hy
    have hzl : z < s.heap.objs.size := Heap.lt_size hz
    have hh : (X.A.in1).handled = none := I.ok.hd hc
    have b1 : i < us1.toArray.size := by have := (List.getElem?_eq_some_iff.mp hu).1; simpa using this
    have b2 : i < us2.toArray.size := by have := (List.getElem?_eq_some_iff.mp hu2).1; simpa using this
    refine wpAny_pyNext_zipD2_item D (Draws.tuple hh i1 a n1 us1.toArray) (Draws.list hh i2 b n2 us2.toArray) hz hTI hTO ⟨h1, p⟩ ⟨h2, p2.isList⟩ b1 b2 fun x1 x2 h' tk e1 e2 z' TO' s1' s2' hT hsz hk => ⟨_, rfl, wpAny_letOwnedTupleGo_zip (s := { s with heap := h', toks := tk }) z' fun h'' z'' sb => ?_⟩
    obtain rfl : u = x1 := by
      have e1 : us1.toArray[i]? = some x1 := e1
      rw [show us1.toArray[i]? = us1[i]? by simp, hu] at e1; exact Option.some.inj e1
    obtain rfl : u2 = x2 := by
      have e2 : us2.toArray[i]? = some x2 := e2
      rw [show us2.toArray[i]? = us2[i]? by simp, hu2] at e2; exact Option.some.inj e2
    have at2 : h''.get? s.heap.objs.size = some (tupO #[u, u2]) := (sb.2 _ (Nat.ne_of_gt hzl)).trans hT
    have new : ObjOk X.prog X.w (upd H s.heap.objs.size (.frz (tupO #[u, u2]) (.tup [x, y]))) h'' s.heap.objs.size (.frz (tupO #[u, u2]) (.tup [x, y])) :=
      ⟨at2, (by decide : 2 ≤ sizeLine), [u, u2], .cons ru (.cons ru2 .nil), ⟨_, at2, rfl, _, rfl⟩⟩
    have I1 : L2.Inv X pins σ (upd H s.heap.objs.size (.frz (tupO #[u, u2]) (.tup [x, y]))) { s with heap := h'', toks := tk } :=
      I.turnedNew (t' := tk) (ch := [z, TI, TO, i1, i2]) (fun c o hb q => (sb.2 c (fun q' => hb (by simp [q']))).trans (hk c o (fun q' => hb (by simp [q'])) (fun q' => hb (by simp [q'])) (fun q' => hb (by simp [q'])) (fun q' => hb (by simp [q'])) q)) hf (Nat.le_refl _) new
    have m1 : i1 ≠ z := fun q => D.zf1 (by simp [q])
    have m2 : i2 ≠ z := fun q => D.zf2 (by simp [q])
    refine ⟨.ref s.heap.objs.size, _, I1, rfl, ⟨_, _, x, y, rfl, I.hok.fresh (Nat.le_refl _), tB _, rfl, fun l hl => by rw [I.tuple_inj hl hqx]; exact hx, fun l hl => by rw [I.list_inj hl hqy]; exact hy⟩, ⟨z'', (sb.2 _ D.TIz).trans (hk _ _ D.TIz D.TITO D.TIi1 D.TIi2 hTI), ⟨u, u2, (sb.2 _ D.TOz).trans TO'⟩, s1'.1.at fun o q => (sb.2 _ m1).trans q, s2'.1.at fun o q => (sb.2 _ m2).trans q⟩, fun c hcm => ?_⟩
    obtain ⟨_, e1, _⟩ := h1
    obtain ⟨_, e2, _⟩ := h2
    have lt : c < s.heap.objs.size := five (M := fun c => c < s.heap.objs.size) hcm hzl (Heap.lt_size hTI) (Heap.lt_size hTO) (Heap.lt_size e1) (Heap.lt_size e2)
    rw [upd_ne (Nat.ne_of_lt lt)]
    exact (hf c hcm).1
  done := by
    intro X hP hw hK hc i pins s σ H E I hf st hg
    subst hP hw hK
    obtain ⟨hz, hTI, ⟨x0, y0, hTO⟩, h1, h2⟩ := st
    obtain ⟨xs, ys, hqx, hqy, hend⟩ := hg
    obtain ⟨us1, rv, p, _⟩ := I.tuple hqx
    obtain ⟨us2, rv2, p2, _⟩ := I.list hqy
    have l1 := rv.length
    have l2 := rv2.length
    have hh : (X.A.in1).handled = none := I.ok.hd hc
    have b1 : i ≤ us1.toArray.size := by simp; omega
    have b2 : i ≤ us2.toArray.size := by simp; omega
    have b3 : i = us1.toArray.size ∨ i = us2.toArray.size := by simp; omega
    exact wpAny_pyNext_zipD2_end D (Draws.tuple hh i1 a n1 us1.toArray) (Draws.list hh i2 b n2 us2.toArray) hz hTI hTO ⟨h1, p⟩ ⟨h2, p2.isList⟩ b1 b2 b3 fun h' tk hk => ⟨rfl, I.turnedL (t' := tk) (ch := [z, TI, TO, i1, i2]) (fun c o hb q =>
      hk c o (fun q' => hb (by simp [q'])) (fun q' => hb (by simp [q'])) (fun q' => hb (by simp [q'])) (fun q' => hb (by simp [q'])) q) hf⟩
  self := fun A i s Q E st h => wpAny_pyIter_zip st.1 h
def ItzLT (K : PySem.W.Frag) (a b : Addr) : It where
  go i H := ∃ (xs ys : List V) (x y : V), SqL K H a xs ∧ SqT K H b ys ∧ xs[i]? = some x ∧ ys[i]? = some y
  yld i H v H' := ∃ T o x y, v = .ref T ∧ H T = none ∧ TB o ∧ H' = upd H T (.frz o (.tup [x, y])) ∧ (∀ xs, SqL K H a xs → xs[i]? = some x) ∧ ∀ ys, SqT K H b ys → ys[i]? = some y
  stop i H := ∃ xs ys : List V, SqL K H a xs ∧ SqT K H b ys ∧ i = min xs.length ys.length
abbrev ZStLT (a b z TI TO i1 i2 : Addr) (i : Nat) (h : Heap) : Prop := IsZip h z TI TO .none ∧ IsPair h TI (.ref i1) (.ref i2) ∧ (∃ x y, IsPair h TO x y) ∧ h.IsListIter i1 a i ∧ h.IsTupleIter i2 b i
theorem turn_zipLT {P : Program} {w : World} {K : PySem.W.Frag} {elts : List Expr} {kk : Nat} {tpos : Pos} {a b z TI TO i1 i2 : Addr} (D : ZipSep2 z TI TO i1 i2 [i1, a] [i2, b]) (n1 : a ≠ i1) (n2 : b ≠ i2) :
    Turn P w K (.Tuple elts kk tpos) (ItzLT K a b) [z, TI, TO, i1, i2] z (ZStLT a b z TI TO i1 i2) where
  mem := List.mem_cons_self
  obj := fun i h st c hc => by
    obtain ⟨hz, hTI, ⟨x, y, hTO⟩, ⟨o1, e1, _, d1⟩, ⟨o2, e2, _, d2⟩⟩ := st
    exact five (M := fun c => ∃ o, h.get? c = some o ∧ ∀ v, o.data ≠ .cell v) hc ⟨_, hz, fun v q => nomatch q⟩ ⟨_, hTI, fun v q => nomatch q⟩ ⟨_, hTO, fun v q => nomatch q⟩ ⟨o1, e1, fun v q => by rw [d1] at q; cases q⟩ ⟨o2, e2, fun v q => by rw [d2] at q; cases q⟩
  keep := fun i h h' st k => by
    obtain ⟨hz, hTI, ⟨x, y, hTO⟩, h1, h2⟩ := st
    exact ⟨k z (by simp) _ hz, k TI (by simp) _ hTI, ⟨x, y, k TO (by simp) _ hTO⟩, h1.at fun o q => k i1 (by simp) o q, h2.at fun o q => k i2 (by simp) o q⟩
  item := by
    intro X hP hw hK hc i pins s σ H E I hf st hg
    subst hP hw hK
    obtain ⟨hz, hTI, ⟨x0, y0, hTO⟩, h1, h2⟩ := st
    obtain ⟨xs, ys, x, y, hqx, hqy, hx, hy⟩ := hg
    obtain ⟨us1, rv, p, _⟩ := I.list hqx
    obtain ⟨us2, rv2, p2, _⟩ := I.tuple hqy
    obtain ⟨u, hu, ru⟩ := rv.get hx
    obtain ⟨u2, hu2, ru2⟩ := rv2.get hy
    have hzl : z < s.heap.objs.size := Heap.lt_size hz
    have hh : (X.A.in1).handled = none := I.ok.hd hc
    have b1 : i < us1.toArray.size := by have := (List.getElem?_eq_some_iff.mp hu).1; simpa using this
    have b2 : i < us2.toArray.size := by have := (List.getElem?_eq_some_iff.mp hu2).1; simpa using this
    refine wpAny_pyNext_zipD2_item D (Draws.list hh i1 a n1 us1.toArray) (Draws.tuple hh i2 b n2 us2.toArray) hz hTI hTO ⟨h1, p.isList⟩ ⟨h2, p2⟩ b1 b2 fun x1 x2 h' tk e1 e2 z' TO' s1' s2' hT hsz hk => ⟨_, rfl, wpAny_letOwnedTupleGo_zip (s := { s with heap := h', toks := tk }) z' fun h'' z'' sb => ?_⟩
    obtain rfl : u = x1 := by
      have e1 : us1.toArray[i]? = some x1 := e1
      rw [show us1.toArray[i]? = us1[i]? by simp, hu] at e1; exact Option.some.inj e1
    obtain rfl : u2 = x2 := by
      have e2 : us2.toArray[i]? = some x2 := e2
      rw [show us2.toArray[i]? = us2[i]? by simp, hu2] at e2; exact Option.some.inj e2
    have at2 : h''.get? s.heap.objs.size = some (tupO #[u, u2]) := (sb.2 _ (Nat.ne_of_gt hzl)).trans hT
    have new : ObjOk X.prog X.w (upd H s.heap.objs.size (.frz (tupO #[u, u2]) (.tup [x, y]))) h'' s.heap.objs.size (.frz (tupO #[u, u2]) (.tup [x, y])) :=
      ⟨at2, (by decide : 2 ≤ sizeLine), [u, u2], .cons ru (.cons ru2 .nil), ⟨_, at2, rfl, _, rfl⟩⟩
    have I1 : L2.Inv X pins σ (upd H s.heap.objs.size (.frz (tupO #[u, u2]) (.tup [x, y]))) { s with heap := h'', toks := tk } :=
      I.turnedNew (t' := tk) (ch := [z, TI, TO, i1, i2]) (fun c o hb q => (sb.2 c (fun q' => hb (by simp [q']))).trans (hk c o (fun q' => hb (by simp [q'])) (fun q' => hb (by simp [q'])) (fun q' => hb (by simp [q'])) (fun q' => hb (by simp [q'])) q)) hf (Nat.le_refl _) new
    have m1 : i1 ≠ z := fun q => D.zf1 (by simp [q])
    have m2 : i2 ≠ z := fun q => D.zf2 (by simp [q])
    refine ⟨.ref s.heap.objs.size, _, I1, rfl, ⟨_, _, x, y, rfl, I.hok.fresh (Nat.le_refl _), tB _, rfl, fun l hl => by rw [I.list_inj hl hqx]; exact hx, fun l hl => by rw [I.tuple_inj hl hqy]; exact hy⟩, ⟨z'', (sb.2 _ D.TIz).trans (hk _ _ D.TIz D.TITO D.TIi1 D.TIi2 hTI), ⟨u, u2, (sb.2 _ D.TOz).trans TO'⟩, s1'.1.at fun o q => (sb.2 _ m1).trans q, s2'.1.at fun o q => (sb.2 _ m2).trans q⟩, fun c hcm => ?_⟩
    obtain ⟨_, e1, _⟩ := h1
    obtain ⟨_, e2, _⟩ := h2
    have lt : c < s.heap.objs.size := five (M := fun c => c < s.heap.objs.size) hcm hzl (Heap.lt_size hTI) (Heap.lt_size hTO) (Heap.lt_size e1) (Heap.lt_size e2)
    rw [upd_ne (Nat.ne_of_lt lt)]
    exact (hf c hcm).1
  done := by
    intro X hP hw hK hc i pins s σ H E I hf st hg
    subst hP hw hK
    obtain ⟨hz, hTI, ⟨x0, y0, hTO⟩, h1, h2⟩ := st
    obtain ⟨xs, ys, hqx, hqy, hend⟩ := hg
    obtain ⟨us1, rv, p, _⟩ := I.list hqx
    obtain ⟨us2, rv2, p2, _⟩ := I.tuple hqy
    have l1 := rv.length
    have l2 := rv2.length
    have hh : (X.A.in1).handled = none := I.ok.hd hc
    have b1 : i ≤ us1.toArray.size := by simp; omega
    have b2 : i ≤ us2.toArray.size := by simp; omega
    have b3 : i = us1.toArray.size ∨ i = us2.toArray.size := by simp; omega
    exact wpAny_pyNext_zipD2_end D (Draws.list hh i1 a n1 us1.toArray) (Draws.tuple hh i2 b n2 us2.toArray) hz hTI hTO ⟨h1, p.isList⟩ ⟨h2, p2⟩ b1 b2 b3 fun h' tk hk => ⟨rfl, I.turnedL (t' := tk) (ch := [z, TI, TO, i1, i2]) (fun c o hb q =>
      hk c o (fun q' => hb (by simp [q'])) (fun q' => hb (by simp [q'])) (fun q' => hb (by simp [q'])) (fun q' => hb (by simp [q'])) q) hf⟩
  self := fun A i s Q E st h => wpAny_pyIter_zip st.1 h
def ItzLL (K : PySem.W.Frag) (a b : Addr) : It where
  go i H := ∃ (xs ys : List V) (x y : V), SqL K H a xs ∧ SqL K H b ys ∧ xs[i]? = some x ∧ ys[i]? = some y
  yld i H v H' := ∃ T o x y, v = .ref T ∧ H T = none ∧ TB o ∧ H' = upd H T (.frz o (.tup [x, y])) ∧ (∀ xs, SqL K H a xs → xs[i]? = some x) ∧ ∀ ys, SqL K H b ys → ys[i]? = some y
  stop i H := ∃ xs ys : List V, SqL K H a xs ∧ SqL K H b ys ∧ i = min xs.length ys.length
abbrev ZStLL (a b z TI TO i1 i2 : Addr) (i : Nat) (h : Heap) : Prop := IsZip h z TI TO .none ∧ IsPair h TI (.ref i1) (.ref i2) ∧ (∃ x y, IsPair h TO x y) ∧ h.IsListIter i1 a i ∧ h.IsListIter i2 b i
theorem turn_zipLL {P : Program} {w : World} {K : PySem.W.Frag} {elts : List Expr} {kk : Nat} {tpos : Pos} {a b z TI TO i1 i2 : Addr} (D : ZipSep2 z TI TO i1 i2 [i1, a] [i2, b]) (n1 : a ≠ i1) (n2 : b ≠ i2) :
    Turn P w K (.Tuple elts kk tpos) (ItzLL K a b) [z, TI, TO, i1, i2] z (ZStLL a b z TI TO i1 i2) where
  mem := List.mem_cons_self
  obj := fun i h st c hc => by
    obtain ⟨hz, hTI, ⟨x, y, hTO⟩, ⟨o1, e1, _, d1⟩, ⟨o2, e2, _, d2⟩⟩ := st
    exact five (M := fun c => ∃ o, h.get? c = some o ∧ ∀ v, o.data ≠ .cell v) hc ⟨_, hz, fun v q => nomatch q⟩ ⟨_, hTI, fun v q => nomatch q⟩ ⟨_, hTO, fun v q => nomatch q⟩ ⟨o1, e1, fun v q => by rw [d1] at q; cases q⟩ ⟨o2, e2, fun v q => by rw [d2] at q; cases q⟩
  keep := fun i h h' st k => by
    obtain ⟨hz, hTI, ⟨x, y, hTO⟩, h1, h2⟩ := st
    exact ⟨k z (by simp) _ hz, k TI (by simp) _ hTI, ⟨x, y, k TO (by simp) _ hTO⟩, h1.at fun o q => k i1 (by simp) o q, h2.at fun o q => k i2 (by simp) o q⟩
  item := by
    intro X hP hw hK hc i pins s σ H E I hf st hg
    subst hP hw hK
    obtain ⟨hz, hTI, ⟨x0, y0, hTO⟩, h1, h2⟩ := st
    obtain ⟨xs, ys, x, y, hqx, hqy, hx, hy⟩ := hg
    obtain ⟨us1, rv, p, _⟩ := I.list hqx
    obtain ⟨us2, rv2, p2, _⟩ := I.list hqy
    obtain ⟨u, hu, ru⟩ := rv.get hx
    obtain ⟨u2, hu2, ru2⟩ := rv2.get hy
    have hzl : z < s.heap.objs.size := Heap.lt_size hz
    have hh : (X.A.in1).handled = none := I.ok.hd hc
    have b1 : i < us1.toArray.size := by have := (List.getElem?_eq_some_iff.mp hu).1; simpa using this
    have b2 : i < us2.toArray.size := by have := (List.getElem?_eq_some_iff.mp hu2).1; simpa using this
    refine wpAny_pyNext_zipD2_item D (Draws.list hh i1 a n1 us1.toArray) (Draws.list hh i2 b n2 us2.toArray) hz hTI hTO ⟨h1, p.isList⟩ ⟨h2, p2.isList⟩ b1 b2 fun x1 x2 h' tk e1 e2 z' TO' s1' s2' hT hsz hk => ⟨_, rfl, wpAny_letOwnedTupleGo_zip (s := { s with heap := h', toks := tk }) z' fun h'' z'' sb => ?_⟩
    obtain rfl : u = x1 := by
      have e1 : us1.toArray[i]? = some x1 := e1
      rw [show us1.toArray[i]? = us1[i]? by simp, hu] at e1; exact Option.some.inj e1
    obtain rfl : u2 = x2 := by
      have e2 : us2.toArray[i]? = some x2 := e2
      rw [show us2.toArray[i]? = us2[i]? by simp, hu2] at e2; exact Option.some.inj e2
    have at2 : h''.get? s.heap.objs.size = some (tupO #[u, u2]) := (sb.2 _ (Nat.ne_of_gt hzl)).trans hT
    have new : ObjOk X.prog X.w (upd H s.heap.objs.size (.frz (tupO #[u, u2]) (.tup [x, y]))) h'' s.heap.objs.size (.frz (tupO #[u, u2]) (.tup [x, y])) :=
      ⟨at2, (by decide : 2 ≤ sizeLine), [u, u2], .cons ru (.cons ru2 .nil), ⟨_, at2, rfl, _, rfl⟩⟩
    have I1 : L2.Inv X pins σ (upd H s.heap.objs.size (.frz (tupO #[u, u2]) (.tup [x, y]))) { s with heap := h'', toks := tk } :=
      I.turnedNew (t' := tk) (ch := [z, TI, TO, i1, i2]) (fun c o hb q => (sb.2 c (fun q' => hb (by simp [q']))).trans (hk c o (fun q' => hb (by simp [q'])) (fun q' => hb (by simp [q'])) (fun q' => hb (by simp [q'])) (fun q' => hb (by simp [q'])) q)) hf (Nat.le_refl _) new
    have m1 : i1 ≠ z := fun q => D.zf1 (by simp [q])
    have m2 : i2 ≠ z := fun q => D.zf2 (by simp [q])
    refine ⟨.ref s.heap.objs.size, _, I1, rfl, ⟨_, _, x, y, rfl, I.hok.fresh (Nat.le_refl _), tB _, rfl, fun l hl => by rw [I.list_inj hl hqx]; exact hx, fun l hl => by rw [I.list_inj hl hqy]; exact hy⟩, ⟨z'', (sb.2 _ D.TIz).trans (hk _ _ D.TIz D.TITO D.TIi1 D.TIi2 hTI), ⟨u, u2, (sb.2 _ D.TOz).trans TO'⟩, s1'.1.at fun o q => (sb.2 _ m1).trans q, s2'.1.at fun o q => (sb.2 _ m2).trans q⟩, fun c hcm => ?_⟩
    obtain ⟨_, e1, _⟩ := h1
    obtain ⟨_, e2, _⟩ := h2
    have lt : c < s.heap.objs.size := five (M := fun c => c < s.heap.objs.size) hcm hzl (Heap.lt_size hTI) (Heap.lt_size hTO) (Heap.lt_size e1) (Heap.lt_size e2)
    rw [upd_ne (Nat.ne_of_lt lt)]
    exact (hf c hcm).1
  done := by
    intro X hP hw hK hc i pins s σ H E I hf st hg
    subst hP hw hK
    obtain ⟨hz, hTI, ⟨x0, y0, hTO⟩, h1, h2⟩ := st
    obtain ⟨xs, ys, hqx, hqy, hend⟩ := hg
    obtain ⟨us1, rv, p, _⟩ := I.list hqx
    obtain ⟨us2, rv2, p2, _⟩ := I.list hqy
    have l1 := rv.length
    have l2 := rv2.length
    have hh : (X.A.in1).handled = none := I.ok.hd hc
    have b1 : i ≤ us1.toArray.size := by simp; omega
    have b2 : i ≤ us2.toArray.size := by simp; omega
    have b3 : i = us1.toArray.size ∨ i = us2.toArray.size := by simp; omega
    exact wpAny_pyNext_zipD2_end D (Draws.list hh i1 a n1 us1.toArray) (Draws.list hh i2 b n2 us2.toArray) hz hTI hTO ⟨h1, p.isList⟩ ⟨h2, p2.isList⟩ b1 b2 b3 fun h' tk hk => ⟨rfl, I.turnedL (t' := tk) (ch := [z, TI, TO, i1, i2]) (fun c o hb q =>
      hk c o (fun q' => hb (by simp [q'])) (fun q' => hb (by simp [q'])) (fun q' => hb (by simp [q'])) (fun q' => hb (by simp [q'])) q) hf⟩
  self := fun A i s Q E st h => wpAny_pyIter_zip st.1 h
def iZipBA (K : PySem.W.Frag) (ta : TA) : TI := fun σ H R => ta σ H fun vs H1 => ∃ a b xs ys, vs = [.ref a, .ref b] ∧ ((SqT K H1 a xs ∧ SqT K H1 b ys ∧ R (ItzTT K a b) H1) ∨ (SqT K H1 a xs ∧ SqL K H1 b ys ∧ R (ItzTL K a b) H1) ∨ (SqL K H1 a xs ∧ SqT K H1 b ys ∧ R (ItzLT K a b) H1) ∨ (SqL K H1 a xs ∧ SqL K H1 b ys ∧ R (ItzLL K a b) H1))
theorem pi_zipA2 {X : Cx} {e e2 : Expr} {ta : TA} {p pos tpos : Pos} {elts : List Expr} {kk : Nat} (hg : Gl X "zip") (hm : X.mg "zip" = none) (ha : PA X [e, e2] ta)
    (hs : starEach [e, e2] X.env = (false, eval e X.env) :: starEach [e2] X.env := by rfl) (hpl : (backTo pos (starEach [e2] X.env)).any (·.1) = false := by rfl) :
    PI X (.Tuple elts kk tpos) (.Call (.Name "zip" p) [e, e2] [] pos) (iZipBA X.K ta) := by
  refine ⟨fun pins s σ H R I h => ?_⟩
  refine Call_ (ld_blt I hg hm PyProof.Rows.boot_zip (PyProof.Rows.callWith_type1 (thn (ha.run pos pins s σ H _ I h) fun us s1 ⟨vs, H1, I1, r1, a, b, xs, ys, ex, hc⟩ => ?_) hs hpl))
  subst ex
  obtain ⟨u1, u2, rfl, ra, rb⟩ := vals2 r1
  obtain rfl : u1 = Value.ref a := ra
  obtain rfl : u2 = Value.ref b := rb
  rcases hc with ⟨hqx, hqy, q⟩ | ⟨hqx, hqy, q⟩ | ⟨hqx, hqy, q⟩ | ⟨hqx, hqy, q⟩
  · obtain ⟨us1, rv, p1, _⟩ := I1.tuple hqx
    obtain ⟨us2, rv2, p2, _⟩ := I1.tuple hqy
    have la : a < s1.heap.objs.size := by obtain ⟨o1, ho1, _⟩ := id p1; exact Heap.lt_size ho1
    have lb : b < s1.heap.objs.size := by obtain ⟨o1, ho1, _⟩ := id p2; exact Heap.lt_size ho1
    refine zip_begins2 (begins_tuple a us1.toArray) (begins_tuple b us2.toArray) p1 p2 fun h' hz hTI hTO h1 h2 hsz hk => wpAny_pyIter_zip hz ?_
    have I2 : L2.Inv X pins σ H1 { s1 with heap := h' } := I1.kept (t' := s1.toks) hk
    refine ⟨s1.heap.objs.size + 4, [s1.heap.objs.size + 4, s1.heap.objs.size + 2, s1.heap.objs.size + 3, s1.heap.objs.size, s1.heap.objs.size + 1], _, _, H1, rfl, I2, turn_zipTT (zip_sep2 (fp1 := [a]) (fp2 := [b]) (by simpa using la) (by simpa using lb)) (Nat.ne_of_lt la) (Nat.ne_of_lt (Nat.lt_succ_of_lt lb)), ⟨hz, hTI, ⟨_, _, hTO⟩, ⟨_, h1, rfl, rfl⟩, ⟨_, h2, rfl, rfl⟩⟩, fun c hcm => ?_, q⟩
    have le : s1.heap.objs.size ≤ c := five (M := fun c => s1.heap.objs.size ≤ c) hcm (Nat.le_add_right _ _) (Nat.le_add_right _ _) (Nat.le_add_right _ _) (Nat.le_refl _) (Nat.le_add_right _ _)
    exact I1.fpOk le (I1.hok.fresh le)
  · obtain ⟨us1, rv, p1, _⟩ := I1.tuple hqx
    obtain ⟨us2, rv2, p2, _⟩ := I1.list hqy
    have la : a < s1.heap.objs.size := by obtain ⟨o1, ho1, _⟩ := id p1; exact Heap.lt_size ho1
    have lb : b < s1.heap.objs.size := by exact p2.lt
    refine zip_begins2 (begins_tuple a us1.toArray) (begins_list b us2.toArray) p1 p2.isList fun h' hz hTI hTO h1 h2 hsz hk => wpAny_pyIter_zip hz ?_
    have I2 : L2.Inv X pins σ H1 { s1 with heap := h' } := I1.kept (t' := s1.toks) hk
    refine ⟨s1.heap.objs.size + 4, [s1.heap.objs.size + 4, s1.heap.objs.size + 2, s1.heap.objs.size + 3, s1.heap.objs.size, s1.heap.objs.size + 1], _, _, H1, rfl, I2, turn_zipTL (zip_sep2 (fp1 := [a]) (fp2 := [b]) (by simpa using la) (by simpa using lb)) (Nat.ne_of_lt la) (Nat.ne_of_lt (Nat.lt_succ_of_lt lb)), ⟨hz, hTI, ⟨_, _, hTO⟩, ⟨_, h1, rfl, rfl⟩, ⟨_, h2, rfl, rfl⟩⟩, fun c hcm => ?_, q⟩
    have le : s1.heap.objs.size ≤ c := five (M := fun c => s1.heap.objs.size ≤ c) hcm (Nat.le_add_right _ _) (Nat.le_add_right _ _) (Nat.le_add_right _ _) (Nat.le_refl _) (Nat.le_add_right _ _)
    exact I1.fpOk le (I1.hok.fresh le)
  · obtain ⟨us1, rv, p1, _⟩ := I1.list hqx
    obtain ⟨us2, rv2, p2, _⟩ := I1.tuple hqy
    have la : a < s1.heap.objs.size := by exact p1.lt
    have lb : b < s1.heap.objs.size := by obtain ⟨o1, ho1, _⟩ := id p2; exact Heap.lt_size ho1
    refine zip_begins2 (begins_list a us1.toArray) (begins_tuple b us2.toArray) p1.isList p2 fun h' hz hTI hTO h1 h2 hsz hk => wpAny_pyIter_zip hz ?_
    have I2 : L2.Inv X pins σ H1 { s1 with heap := h' } := I1.kept (t' := s1.toks) hk
    refine ⟨s1.heap.objs.size + 4, [s1.heap.objs.size + 4, s1.heap.objs.size + 2, s1.heap.objs.size + 3, s1.heap.objs.size, s1.heap.objs.size + 1], _, _, H1, rfl, I2, turn_zipLT (zip_sep2 (fp1 := [a]) (fp2 := [b]) (by simpa using la) (by simpa using lb)) (Nat.ne_of_lt la) (Nat.ne_of_lt (Nat.lt_succ_of_lt lb)), ⟨hz, hTI, ⟨_, _, hTO⟩, ⟨_, h1, rfl, rfl⟩, ⟨_, h2, rfl, rfl⟩⟩, fun c hcm => ?_, q⟩
    have le : s1.heap.objs.size ≤ c := five (M := fun c => s1.heap.objs.size ≤ c) hcm (Nat.le_add_right _ _) (Nat.le_add_right _ _) (Nat.le_add_right _ _) (Nat.le_refl _) (Nat.le_add_right _ _)
    exact I1.fpOk le (I1.hok.fresh le)
  · obtain ⟨us1, rv, p1, _⟩ := I1.list hqx
    obtain ⟨us2, rv2, p2, _⟩ := I1.list hqy
    have la : a < s1.heap.objs.size := by exact p1.lt
    have lb : b < s1.heap.objs.size := by exact p2.lt
    refine zip_begins2 (begins_list a us1.toArray) (begins_list b us2.toArray) p1.isList p2.isList fun h' hz hTI hTO h1 h2 hsz hk => wpAny_pyIter_zip hz ?_
    have I2 : L2.Inv X pins σ H1 { s1 with heap := h' } := I1.kept (t' := s1.toks) hk
    refine ⟨s1.heap.objs.size + 4, [s1.heap.objs.size + 4, s1.heap.objs.size + 2, s1.heap.objs.size + 3, s1.heap.objs.size, s1.heap.objs.size + 1], _, _, H1, rfl, I2, turn_zipLL (zip_sep2 (fp1 := [a]) (fp2 := [b]) (by simpa using la) (by simpa using lb)) (Nat.ne_of_lt la) (Nat.ne_of_lt (Nat.lt_succ_of_lt lb)), ⟨hz, hTI, ⟨_, _, hTO⟩, ⟨_, h1, rfl, rfl⟩, ⟨_, h2, rfl, rfl⟩⟩, fun c hcm => ?_, q⟩
    have le : s1.heap.objs.size ≤ c := five (M := fun c => s1.heap.objs.size ≤ c) hcm (Nat.le_add_right _ _) (Nat.le_add_right _ _) (Nat.le_add_right _ _) (Nat.le_refl _) (Nat.le_add_right _ _)
    exact I1.fpOk le (I1.hok.fresh le)
section
variable {X : Cx} {c : RC} {W : WX} {a b : Expr} {oa ob : Opd} {pos p tpos : Pos} {elts : List Expr} {kk : Nat}
theorem src_zipTT {q q' : Addr} {xs ys : List PV} (l : xs.length ≤ big) : Src c (ItzTT c.K q q') (fun H F => FzTs c q xs H F ∧ FzTs c q' ys H F) Emp (List.zipWith (fun x y => PV.tup [x, y]) xs ys) where
  len := by rw [List.length_zipWith]; omega
  go := fun i H F h hi => by
    obtain ⟨⟨vs, h1, r1⟩, ⟨ws, h2, r2⟩⟩ := h
    rw [List.length_zipWith] at hi
    exact ⟨vs, ws, vs[i]'(by rw [r1.len]; omega), ws[i]'(by rw [r2.len]; omega), h1, h2, List.getElem?_eq_getElem _, List.getElem?_eq_getElem _⟩
  stop := fun H F h => by
    obtain ⟨⟨vs, h1, r1⟩, ⟨ws, h2, r2⟩⟩ := h
    refine ⟨vs, ws, h1, h2, ?_⟩
    rw [List.length_zipWith, r1.len, r2.len]
  yld := fun i H F x H' z h g y e => by
    obtain ⟨⟨vs, h1, r1⟩, ⟨ws, h2, r2⟩⟩ := h
    obtain ⟨T, o, v, w, rfl, hT, hb, rfl, e1, e2⟩ := y
    obtain ⟨a, b, q1, q2, rfl⟩ := zip_at e
    exact pair_new g hT hb (r1.getV q1 (e1 vs (h1))) (r2.getV q2 (e2 ws (h2)))
  step := fun H F A H' F' A' h g s d => ⟨h.1.step g s, h.2.step g s⟩
theorem src_zipTL {q q' : Addr} {xs ys : List PV} (l : xs.length ≤ big) : Src c (ItzTL c.K q q') (fun H F => FzTs c q xs H F ∧ FzLs c q' ys H F) Emp (List.zipWith (fun x y => PV.tup [x, y]) xs ys) where
  len := by rw [List.length_zipWith]; omega
  go := fun i H F h hi => by
    obtain ⟨⟨vs, h1, r1⟩, ⟨ws, h2, r2⟩⟩ := h
    rw [List.length_zipWith] at hi
    exact ⟨vs, ws, vs[i]'(by rw [r1.len]; omega), ws[i]'(by rw [r2.len]; omega), h1, .inl h2.1, List.getElem?_eq_getElem _, List.getElem?_eq_getElem _⟩
  stop := fun H F h => by
    obtain ⟨⟨vs, h1, r1⟩, ⟨ws, h2, r2⟩⟩ := h
    refine ⟨vs, ws, h1, .inl h2.1, ?_⟩
    rw [List.length_zipWith, r1.len, r2.len]
  yld := fun i H F x H' z h g y e => by
    obtain ⟨⟨vs, h1, r1⟩, ⟨ws, h2, r2⟩⟩ := h
    obtain ⟨T, o, v, w, rfl, hT, hb, rfl, e1, e2⟩ := y
    obtain ⟨a, b, q1, q2, rfl⟩ := zip_at e
    exact pair_new g hT hb (r1.getV q1 (e1 vs (h1))) (r2.getV q2 (e2 ws (.inl h2.1)))
  step := fun H F A H' F' A' h g s d => ⟨h.1.step g s, h.2.step g s⟩
theorem src_zipLT {q q' : Addr} {xs ys : List PV} (l : xs.length ≤ big) : Src c (ItzLT c.K q q') (fun H F => FzLs c q xs H F ∧ FzTs c q' ys H F) Emp (List.zipWith (fun x y => PV.tup [x, y]) xs ys) where
  len := by rw [List.length_zipWith]; omega
  go := fun i H F h hi => by
    obtain ⟨⟨vs, h1, r1⟩, ⟨ws, h2, r2⟩⟩ := h
    rw [List.length_zipWith] at hi
    exact ⟨vs, ws, vs[i]'(by rw [r1.len]; omega), ws[i]'(by rw [r2.len]; omega), .inl h1.1, h2, List.getElem?_eq_getElem _, List.getElem?_eq_getElem _⟩
  stop := fun H F h => by
    obtain ⟨⟨vs, h1, r1⟩, ⟨ws, h2, r2⟩⟩ := h
    refine ⟨vs, ws, .inl h1.1, h2, ?_⟩
    rw [List.length_zipWith, r1.len, r2.len]
  yld := fun i H F x H' z h g y e => by
    obtain ⟨⟨vs, h1, r1⟩, ⟨ws, h2, r2⟩⟩ := h
    obtain ⟨T, o, v, w, rfl, hT, hb, rfl, e1, e2⟩ := y
    obtain ⟨a, b, q1, q2, rfl⟩ := zip_at e
    exact pair_new g hT hb (r1.getV q1 (e1 vs (.inl h1.1))) (r2.getV q2 (e2 ws (h2)))
  step := fun H F A H' F' A' h g s d => ⟨h.1.step g s, h.2.step g s⟩
theorem src_zipLL {q q' : Addr} {xs ys : List PV} (l : xs.length ≤ big) : Src c (ItzLL c.K q q') (fun H F => FzLs c q xs H F ∧ FzLs c q' ys H F) Emp (List.zipWith (fun x y => PV.tup [x, y]) xs ys) where
  len := by rw [List.length_zipWith]; omega
  go := fun i H F h hi => by
    obtain ⟨⟨vs, h1, r1⟩, ⟨ws, h2, r2⟩⟩ := h
    rw [List.length_zipWith] at hi
    exact ⟨vs, ws, vs[i]'(by rw [r1.len]; omega), ws[i]'(by rw [r2.len]; omega), .inl h1.1, .inl h2.1, List.getElem?_eq_getElem _, List.getElem?_eq_getElem _⟩
  stop := fun H F h => by
    obtain ⟨⟨vs, h1, r1⟩, ⟨ws, h2, r2⟩⟩ := h
    refine ⟨vs, ws, .inl h1.1, .inl h2.1, ?_⟩
    rw [List.length_zipWith, r1.len, r2.len]
  yld := fun i H F x H' z h g y e => by
    obtain ⟨⟨vs, h1, r1⟩, ⟨ws, h2, r2⟩⟩ := h
    obtain ⟨T, o, v, w, rfl, hT, hb, rfl, e1, e2⟩ := y
    obtain ⟨a, b, q1, q2, rfl⟩ := zip_at e
    exact pair_new g hT hb (r1.getV q1 (e1 vs (.inl h1.1))) (r2.getV q2 (e2 ws (.inl h2.1)))
  step := fun H F A H' F' A' h g s d => ⟨h.1.step g s, h.2.step g s⟩
theorem si_zipA (hK : X.K = c.K) (hg : Gl X "zip") (hm : X.mg "zip" = none) (ha : SO X c W a oa) (hb : SO X c W b ob)
    (hs : starEach [a, b] X.env = (false, eval a X.env) :: starEach [b] X.env := by rfl) (hs2 : starEach [b] X.env = (false, eval b X.env) :: starEach [] X.env := by rfl) (hpl : (backTo pos (starEach [b] X.env)).any (·.1) = false := by rfl) :
    SI X c W (.Tuple elts kk tpos) (.Call (.Name "zip" p) [a, b] [] pos) (iZipA oa ob) := by
  refine PI.weak (pi_zipA2 hg hm (pa_cons ha (pa_cons hb pa_nil hs2) hs) hs hpl) fun σ H Q q => ?_
  refine tO.two q fun v w x y z ρ1 H1 F1 A1 bb g sb e ⟨_, _, r1⟩ ⟨_, _, r2⟩ kk pp => ?_
  unfold zipPA at kk
  split at kk
  · rename_i xs ys
    split at kk
    · rename_i hf
      cases kk
      have hf' := Bool.and_eq_true_iff.mp hf
      have r1 := r1.emp hf'.1
      have r2 := r2.emp hf'.2
      obtain ⟨q1, vs, rfl, s1, l1, t1⟩ := r1.tupR
      obtain ⟨q2, ws, rfl, s2, l2, t2⟩ := r2.tupR
      exact ⟨q1, q2, vs, ws, rfl, .inl ⟨by rw [hK]; exact s1, by rw [hK]; exact s2, by rw [hK]; exact pp.now g sb ⟨_, ⟨⟨vs, s1, t1⟩, ⟨ws, s2, t2⟩⟩, src_zipTT l1⟩ e⟩⟩
    · cases kk
  · rename_i xs ys
    split at kk
    · rename_i hf
      cases kk
      have hf' := Bool.and_eq_true_iff.mp hf
      have r1 := r1.emp hf'.1
      have r2 := r2.emp hf'.2
      obtain ⟨q1, vs, rfl, s1, l1, t1⟩ := r1.tupR
      obtain ⟨q2, ws, rfl, ⟨s2, l2⟩, t2⟩ := r2
      exact ⟨q1, q2, vs, ws, rfl, .inr (.inl ⟨by rw [hK]; exact s1, .inl s2.1, by rw [hK]; exact pp.now g sb ⟨_, ⟨⟨vs, s1, t1⟩, ⟨ws, s2, t2⟩⟩, src_zipTL l1⟩ e⟩)⟩
    · cases kk
  · rename_i xs ys
    split at kk
    · rename_i hf
      cases kk
      have hf' := Bool.and_eq_true_iff.mp hf
      have r1 := r1.emp hf'.1
      have r2 := r2.emp hf'.2
      obtain ⟨q1, vs, rfl, ⟨s1, l1⟩, t1⟩ := r1
      obtain ⟨q2, ws, rfl, s2, l2, t2⟩ := r2.tupR
      exact ⟨q1, q2, vs, ws, rfl, .inr (.inr (.inl ⟨.inl s1.1, by rw [hK]; exact s2, by rw [hK]; exact pp.now g sb ⟨_, ⟨⟨vs, s1, t1⟩, ⟨ws, s2, t2⟩⟩, src_zipLT l1⟩ e⟩))⟩
    · cases kk
  · rename_i xs ys
    split at kk
    · rename_i hf
      cases kk
      have hf' := Bool.and_eq_true_iff.mp hf
      have r1 := r1.emp hf'.1
      have r2 := r2.emp hf'.2
      obtain ⟨q1, vs, rfl, ⟨s1, l1⟩, t1⟩ := r1
      obtain ⟨q2, ws, rfl, ⟨s2, l2⟩, t2⟩ := r2
      exact ⟨q1, q2, vs, ws, rfl, .inr (.inr (.inr ⟨.inl s1.1, .inl s2.1, by rw [hK]; exact pp.now g sb ⟨_, ⟨⟨vs, s1, t1⟩, ⟨ws, s2, t2⟩⟩, src_zipLL l1⟩ e⟩))⟩
    · cases kk
  · cases kk
end
end Tr
namespace Law
open PySem PySem.Spec L2 Tr
def top (i : Nat) : Stmt := PySem.Challenge.pw_sheetback_k00_error_classes.main.body.getD i (.Pass ⟨0, 0, 0, 0⟩)
structure Txt (K : PySem.W.Frag) (mg : Str → Option Value) (c : RC) : Prop where
  hK : K = c.K
  b_ValueError : mg "ValueError" = none
  b_abs : mg "abs" = none
  b_all : mg "all" = none
  b_bool : mg "bool" = none
  b_int : mg "int" = none
  b_isinstance : mg "isinstance" = none
  b_len : mg "len" = none
  b_list : mg "list" = none
  b_max : mg "max" = none
  b_min : mg "min" = none
  b_range : mg "range" = none
  b_str : mg "str" = none
  b_tuple : mg "tuple" = none
  b_zip : mg "zip" = none
  d__law_spool : ∃ f fd, mg "_law_spool" = some (.ref f) ∧ Fun K "_law_spool" "_law_spool" (top 23) f fd ∧ Binds K fd ["_law_script", "_law_at"] []
  d__law_pull : ∃ f fd, mg "_law_pull" = some (.ref f) ∧ Fun K "_law_pull" "_law_pull" (top 24) f fd ∧ Binds K fd ["_law_spool_here", "_law_below"] []
  d__law_thing : ∃ f fd, mg "_law_thing" = some (.ref f) ∧ Fun K "_law_thing" "_law_thing" (top 30) f fd ∧ Binds K fd ["_law_spool_here"] []
  d__law_like : ∃ f fd, mg "_law_like" = some (.ref f) ∧ Fun K "_law_like" "_law_like" (top 25) f fd ∧ Binds K fd ["_law_found", "_law_due"] []
  d__law_raise_more : ∃ f fd, mg "_law_raise_more" = some (.ref f) ∧ Fun K "_law_raise_more" "_law_raise_more" (top 27) f fd ∧ Binds K fd ["_law_way", "_law_one", "_law_other"] []
  d__law_raise_some : ∃ f fd, mg "_law_raise_some" = some (.ref f) ∧ Fun K "_law_raise_some" "_law_raise_some" (top 26) f fd ∧ Binds K fd ["_law_way", "_law_one", "_law_other"] []
  d__law_marks : ∃ f fd, mg "_law_marks" = some (.ref f) ∧ Fun K "_law_marks" "_law_marks" (top 28) f fd ∧ Binds K fd ["_law_e"] []
  d__law_fields_seen : ∃ f fd, mg "_law_fields_seen" = some (.ref f) ∧ Fun K "_law_fields_seen" "_law_fields_seen" (top 29) f fd ∧ Binds K fd ["_law_way", "_law_one", "_law_other"] []
  d__law_way_right : ∃ f fd, mg "_law_way_right" = some (.ref f) ∧ Fun K "_law_way_right" "_law_way_right" (top 31) f fd ∧ Binds K fd ["_law_way", "_law_one", "_law_other"] []
  d_law : ∃ f fd, mg "law" = some (.ref f) ∧ Fun K "law" "law" (top 32) f fd ∧ Binds K fd ["_law_script"] []
  xg : XG K
  x_SheetError : XT K mg c 0 "SheetError"
  x_NoColumns : XT K mg c 1 "NoColumns"
  x_NotNeutral : XT K mg c 2 "NotNeutral"
  x_NotKeyed : XT K mg c 3 "NotKeyed"
  x_NotSame : XT K mg c 4 "NotSame"
  x_NoCommand : XT K mg c 5 "NoCommand"
  x_NothingToUndo : XT K mg c 6 "NothingToUndo"
  x_NoKey : XT K mg c 7 "NoKey"
  x_NoRow : XT K mg c 8 "NoRow"
  x_Missing : XT K mg c 9 "Missing"
  x_Clash : XT K mg c 10 "Clash"
  x_NoSending : XT K mg c 11 "NoSending"
  x_NoJoining : XT K mg c 12 "NoJoining"
  x_NoMeanwhile : XT K mg c 13 "NoMeanwhile"
  x_NoLine : XT K mg c 14 "NoLine"
  x_NoCells : XT K mg c 15 "NoCells"
  x_Refused : XT K mg c 16 "Refused"
  x_NoText : XT K mg c 17 "NoText"
  x_NoName : XT K mg c 18 "NoName"
  x_NoLimit : XT K mg c 19 "NoLimit"
  x_Full : XT K mg c 20 "Full"
  xall : XAll K mg c 21
  q_SheetError : PySem.W.excIn K (c.cA 0) [.type "ValueError", .type "Exception", .type "BaseException", .type "object"] "ValueError.__new__" = true
  q_NoColumns : PySem.W.excIn K (c.cA 1) [.type "ValueError", .type "Exception", .type "BaseException", .type "object"] "ValueError.__new__" = true
  q_NotNeutral : PySem.W.excIn K (c.cA 2) [.type "ValueError", .type "Exception", .type "BaseException", .type "object"] "ValueError.__new__" = true
  q_NotKeyed : PySem.W.excIn K (c.cA 3) [.type "ValueError", .type "Exception", .type "BaseException", .type "object"] "ValueError.__new__" = true
  q_NotSame : PySem.W.excIn K (c.cA 4) [.type "ValueError", .type "Exception", .type "BaseException", .type "object"] "ValueError.__new__" = true
  q_NoCommand : PySem.W.excIn K (c.cA 5) [.type "ValueError", .type "Exception", .type "BaseException", .type "object"] "ValueError.__new__" = true
  q_NothingToUndo : PySem.W.excIn K (c.cA 6) [.type "ValueError", .type "Exception", .type "BaseException", .type "object"] "ValueError.__new__" = true
  cf_NoKey : c.cF 7 = (["key"] : List Str)
  o_NoKey : OexC K (c.cA 7)
  no_NoKey_key : PySem.W.findIn K (.ref (c.cA 7)) "key" = some none
  i_NoKey : ∃ fI fdI, PySem.W.findIn K (.ref (c.cA 7)) "__init__" = some (some (.ref fI)) ∧ PySem.W.typeIn K (.ref fI) = some (.type "function") ∧ Fun K "__init__" "NoKey.__init__" (inClass (top 8) 0) fI fdI ∧ Binds K fdI ["self", "key"] []
  cf_NoRow : c.cF 8 = (["key"] : List Str)
  o_NoRow : OexC K (c.cA 8)
  no_NoRow_key : PySem.W.findIn K (.ref (c.cA 8)) "key" = some none
  i_NoRow : ∃ fI fdI, PySem.W.findIn K (.ref (c.cA 8)) "__init__" = some (some (.ref fI)) ∧ PySem.W.typeIn K (.ref fI) = some (.type "function") ∧ Fun K "__init__" "NoRow.__init__" (inClass (top 9) 0) fI fdI ∧ Binds K fdI ["self", "key"] []
  cf_Missing : c.cF 9 = (["key"] : List Str)
  o_Missing : OexC K (c.cA 9)
  no_Missing_key : PySem.W.findIn K (.ref (c.cA 9)) "key" = some none
  i_Missing : ∃ fI fdI, PySem.W.findIn K (.ref (c.cA 9)) "__init__" = some (some (.ref fI)) ∧ PySem.W.typeIn K (.ref fI) = some (.type "function") ∧ Fun K "__init__" "Missing.__init__" (inClass (top 10) 0) fI fdI ∧ Binds K fdI ["self", "key"] []
  cf_Clash : c.cF 10 = (["key"] : List Str)
  o_Clash : OexC K (c.cA 10)
  no_Clash_key : PySem.W.findIn K (.ref (c.cA 10)) "key" = some none
  i_Clash : ∃ fI fdI, PySem.W.findIn K (.ref (c.cA 10)) "__init__" = some (some (.ref fI)) ∧ PySem.W.typeIn K (.ref fI) = some (.type "function") ∧ Fun K "__init__" "Clash.__init__" (inClass (top 11) 0) fI fdI ∧ Binds K fdI ["self", "key"] []
  cf_NoSending : c.cF 11 = (["part"] : List Str)
  o_NoSending : OexC K (c.cA 11)
  no_NoSending_part : PySem.W.findIn K (.ref (c.cA 11)) "part" = some none
  i_NoSending : ∃ fI fdI, PySem.W.findIn K (.ref (c.cA 11)) "__init__" = some (some (.ref fI)) ∧ PySem.W.typeIn K (.ref fI) = some (.type "function") ∧ Fun K "__init__" "NoSending.__init__" (inClass (top 12) 0) fI fdI ∧ Binds K fdI ["self", "part"] []
  cf_NoJoining : c.cF 12 = (["part"] : List Str)
  o_NoJoining : OexC K (c.cA 12)
  no_NoJoining_part : PySem.W.findIn K (.ref (c.cA 12)) "part" = some none
  i_NoJoining : ∃ fI fdI, PySem.W.findIn K (.ref (c.cA 12)) "__init__" = some (some (.ref fI)) ∧ PySem.W.typeIn K (.ref fI) = some (.type "function") ∧ Fun K "__init__" "NoJoining.__init__" (inClass (top 13) 0) fI fdI ∧ Binds K fdI ["self", "part"] []
  cf_NoMeanwhile : c.cF 13 = (["part"] : List Str)
  o_NoMeanwhile : OexC K (c.cA 13)
  no_NoMeanwhile_part : PySem.W.findIn K (.ref (c.cA 13)) "part" = some none
  i_NoMeanwhile : ∃ fI fdI, PySem.W.findIn K (.ref (c.cA 13)) "__init__" = some (some (.ref fI)) ∧ PySem.W.typeIn K (.ref fI) = some (.type "function") ∧ Fun K "__init__" "NoMeanwhile.__init__" (inClass (top 14) 0) fI fdI ∧ Binds K fdI ["self", "part"] []
  cf_NoLine : c.cF 14 = (["index"] : List Str)
  o_NoLine : OexC K (c.cA 14)
  no_NoLine_index : PySem.W.findIn K (.ref (c.cA 14)) "index" = some none
  i_NoLine : ∃ fI fdI, PySem.W.findIn K (.ref (c.cA 14)) "__init__" = some (some (.ref fI)) ∧ PySem.W.typeIn K (.ref fI) = some (.type "function") ∧ Fun K "__init__" "NoLine.__init__" (inClass (top 15) 0) fI fdI ∧ Binds K fdI ["self", "index"] []
  cf_NoCells : c.cF 15 = (["index"] : List Str)
  o_NoCells : OexC K (c.cA 15)
  no_NoCells_index : PySem.W.findIn K (.ref (c.cA 15)) "index" = some none
  i_NoCells : ∃ fI fdI, PySem.W.findIn K (.ref (c.cA 15)) "__init__" = some (some (.ref fI)) ∧ PySem.W.typeIn K (.ref fI) = some (.type "function") ∧ Fun K "__init__" "NoCells.__init__" (inClass (top 16) 0) fI fdI ∧ Binds K fdI ["self", "index"] []
  cf_Refused : c.cF 16 = (["why", "index"] : List Str)
  o_Refused : OexC K (c.cA 16)
  no_Refused_index : PySem.W.findIn K (.ref (c.cA 16)) "index" = some none
  no_Refused_why : PySem.W.findIn K (.ref (c.cA 16)) "why" = some none
  i_Refused : ∃ fI fdI, PySem.W.findIn K (.ref (c.cA 16)) "__init__" = some (some (.ref fI)) ∧ PySem.W.typeIn K (.ref fI) = some (.type "function") ∧ Fun K "__init__" "Refused.__init__" (inClass (top 17) 0) fI fdI ∧ Binds K fdI ["self", "index", "why"] []
  cf_NoText : c.cF 17 = (["part"] : List Str)
  o_NoText : OexC K (c.cA 17)
  no_NoText_part : PySem.W.findIn K (.ref (c.cA 17)) "part" = some none
  i_NoText : ∃ fI fdI, PySem.W.findIn K (.ref (c.cA 17)) "__init__" = some (some (.ref fI)) ∧ PySem.W.typeIn K (.ref fI) = some (.type "function") ∧ Fun K "__init__" "NoText.__init__" (inClass (top 18) 0) fI fdI ∧ Binds K fdI ["self", "part"] []
  cf_NoName : c.cF 18 = (["name"] : List Str)
  o_NoName : OexC K (c.cA 18)
  no_NoName_name : PySem.W.findIn K (.ref (c.cA 18)) "name" = some none
  i_NoName : ∃ fI fdI, PySem.W.findIn K (.ref (c.cA 18)) "__init__" = some (some (.ref fI)) ∧ PySem.W.typeIn K (.ref fI) = some (.type "function") ∧ Fun K "__init__" "NoName.__init__" (inClass (top 19) 0) fI fdI ∧ Binds K fdI ["self", "name"] []
  cf_NoLimit : c.cF 19 = (["limit"] : List Str)
  o_NoLimit : OexC K (c.cA 19)
  no_NoLimit_limit : PySem.W.findIn K (.ref (c.cA 19)) "limit" = some none
  i_NoLimit : ∃ fI fdI, PySem.W.findIn K (.ref (c.cA 19)) "__init__" = some (some (.ref fI)) ∧ PySem.W.typeIn K (.ref fI) = some (.type "function") ∧ Fun K "__init__" "NoLimit.__init__" (inClass (top 20) 0) fI fdI ∧ Binds K fdI ["self", "limit"] []
  cf_Full : c.cF 20 = (["limit"] : List Str)
  o_Full : OexC K (c.cA 20)
  no_Full_limit : PySem.W.findIn K (.ref (c.cA 20)) "limit" = some none
  i_Full : ∃ fI fdI, PySem.W.findIn K (.ref (c.cA 20)) "__init__" = some (some (.ref fI)) ∧ PySem.W.typeIn K (.ref fI) = some (.type "function") ∧ Fun K "__init__" "Full.__init__" (inClass (top 21) 0) fI fdI ∧ Binds K fdI ["self", "limit"] []
  s_Clash : XS K c 21 (.ref (c.cA 10)) [10]
  s_Full : XS K c 21 (.ref (c.cA 20)) [20]
  s_Missing : XS K c 21 (.ref (c.cA 9)) [9]
  s_NoCells : XS K c 21 (.ref (c.cA 15)) [15]
  s_NoColumns : XS K c 21 (.ref (c.cA 1)) [1]
  s_NoCommand : XS K c 21 (.ref (c.cA 5)) [5]
  s_NoJoining : XS K c 21 (.ref (c.cA 12)) [12]
  s_NoKey : XS K c 21 (.ref (c.cA 7)) [7]
  s_NoLimit : XS K c 21 (.ref (c.cA 19)) [19]
  s_NoLine : XS K c 21 (.ref (c.cA 14)) [14]
  s_NoMeanwhile : XS K c 21 (.ref (c.cA 13)) [13]
  s_NoName : XS K c 21 (.ref (c.cA 18)) [18]
  s_NoRow : XS K c 21 (.ref (c.cA 8)) [8]
  s_NoSending : XS K c 21 (.ref (c.cA 11)) [11]
  s_NoText : XS K c 21 (.ref (c.cA 17)) [17]
  s_NotKeyed : XS K c 21 (.ref (c.cA 3)) [3]
  s_NotNeutral : XS K c 21 (.ref (c.cA 2)) [2]
  s_NotSame : XS K c 21 (.ref (c.cA 4)) [4]
  s_NothingToUndo : XS K c 21 (.ref (c.cA 6)) [6]
  s_Refused : XS K c 21 (.ref (c.cA 16)) [16]
  s_SheetError : XS K c 21 (.ref (c.cA 0)) [0, 1, 2, 3, 4, 5, 6, 7, 8, 9, 10, 11, 12, 13, 14, 15, 16, 17, 18, 19, 20]
  s_ValueError : XS K c 21 (.type "ValueError") [0, 1, 2, 3, 4, 5, 6, 7, 8, 9, 10, 11, 12, 13, 14, 15, 16, 17, 18, 19, 20]
section
variable {P : Program} {w : World} {K : PySem.W.Frag} {mg : Str → Option Value} {base : Heap} {c : RC}
theorem ok_init_NoKey (T : Txt K mg c) {f : Addr} {fd : FuncData} (F : Fun K "__init__" "NoKey.__init__" (inClass (top 8) 0) f fd) : FnOk P w K mg base (L2.CX P w) 1 f fd ["self", "key"] (spI K (c.cA 7) ["key"]) := by
  have sc : FnScope ["self", "key"] ["self", "key"] (defScope (inClass (top 8) 0)) := ⟨rfl, rfl, rfl, by decide +kernel, rfl, by decide +kernel, by decide +kernel⟩
  refine F.okX sc (fun vs H Q E h => ?_) fun cdv A outer s H vs Q E hr h => ⟨_, (pss_one (ps_ost (pv 0) (pv 1))), ?_⟩
  · obtain ⟨a, ys, rfl, hl, _⟩ := h; simpa using hl
  · refine (rd_I1 T.no_NoKey_key h ?_ fun _ _ q => q)
    obtain ⟨a, ys, rfl, hl, _⟩ := h
    match ys, hl with
    | [_], _ => rfl
theorem ok_init_NoRow (T : Txt K mg c) {f : Addr} {fd : FuncData} (F : Fun K "__init__" "NoRow.__init__" (inClass (top 9) 0) f fd) : FnOk P w K mg base (L2.CX P w) 1 f fd ["self", "key"] (spI K (c.cA 8) ["key"]) := by
  have sc : FnScope ["self", "key"] ["self", "key"] (defScope (inClass (top 9) 0)) := ⟨rfl, rfl, rfl, by decide +kernel, rfl, by decide +kernel, by decide +kernel⟩
  refine F.okX sc (fun vs H Q E h => ?_) fun cdv A outer s H vs Q E hr h => ⟨_, (pss_one (ps_ost (pv 0) (pv 1))), ?_⟩
  · obtain ⟨a, ys, rfl, hl, _⟩ := h; simpa using hl
  · refine (rd_I1 T.no_NoRow_key h ?_ fun _ _ q => q)
    obtain ⟨a, ys, rfl, hl, _⟩ := h
    match ys, hl with
    | [_], _ => rfl
theorem ok_init_Missing (T : Txt K mg c) {f : Addr} {fd : FuncData} (F : Fun K "__init__" "Missing.__init__" (inClass (top 10) 0) f fd) : FnOk P w K mg base (L2.CX P w) 1 f fd ["self", "key"] (spI K (c.cA 9) ["key"]) := by
  have sc : FnScope ["self", "key"] ["self", "key"] (defScope (inClass (top 10) 0)) := ⟨rfl, rfl, rfl, by decide +kernel, rfl, by decide +kernel, by decide +kernel⟩
  refine F.okX sc (fun vs H Q E h => ?_) fun cdv A outer s H vs Q E hr h => ⟨_, (pss_one (ps_ost (pv 0) (pv 1))), ?_⟩
  · obtain ⟨a, ys, rfl, hl, _⟩ := h; simpa using hl
  · refine (rd_I1 T.no_Missing_key h ?_ fun _ _ q => q)
    obtain ⟨a, ys, rfl, hl, _⟩ := h
    match ys, hl with
    | [_], _ => rfl
theorem ok_init_Clash (T : Txt K mg c) {f : Addr} {fd : FuncData} (F : Fun K "__init__" "Clash.__init__" (inClass (top 11) 0) f fd) : FnOk P w K mg base (L2.CX P w) 1 f fd ["self", "key"] (spI K (c.cA 10) ["key"]) := by
  have sc : FnScope ["self", "key"] ["self", "key"] (defScope (inClass (top 11) 0)) := ⟨rfl, rfl, rfl, by decide +kernel, rfl, by decide +kernel, by decide +kernel⟩
  refine F.okX sc (fun vs H Q E h => ?_) fun cdv A outer s H vs Q E hr h => ⟨_, (pss_one (ps_ost (pv 0) (pv 1))), ?_⟩
  · obtain ⟨a, ys, rfl, hl, _⟩ := h; simpa using hl
  · refine (rd_I1 T.no_Clash_key h ?_ fun _ _ q => q)
    obtain ⟨a, ys, rfl, hl, _⟩ := h
    match ys, hl with
    | [_], _ => rfl
theorem ok_init_NoSending (T : Txt K mg c) {f : Addr} {fd : FuncData} (F : Fun K "__init__" "NoSending.__init__" (inClass (top 12) 0) f fd) : FnOk P w K mg base (L2.CX P w) 1 f fd ["self", "part"] (spI K (c.cA 11) ["part"]) := by
  have sc : FnScope ["self", "part"] ["self", "part"] (defScope (inClass (top 12) 0)) := ⟨rfl, rfl, rfl, by decide +kernel, rfl, by decide +kernel, by decide +kernel⟩
  refine F.okX sc (fun vs H Q E h => ?_) fun cdv A outer s H vs Q E hr h => ⟨_, (pss_one (ps_ost (pv 0) (pv 1))), ?_⟩
  · obtain ⟨a, ys, rfl, hl, _⟩ := h; simpa using hl
  · refine (rd_I1 T.no_NoSending_part h ?_ fun _ _ q => q)
    obtain ⟨a, ys, rfl, hl, _⟩ := h
    match ys, hl with
    | [_], _ => rfl
theorem ok_init_NoJoining (T : Txt K mg c) {f : Addr} {fd : FuncData} (F : Fun K "__init__" "NoJoining.__init__" (inClass (top 13) 0) f fd) : FnOk P w K mg base (L2.CX P w) 1 f fd ["self", "part"] (spI K (c.cA 12) ["part"]) := by
  have sc : FnScope ["self", "part"] ["self", "part"] (defScope (inClass (top 13) 0)) := ⟨rfl, rfl, rfl, by decide +kernel, rfl, by decide +kernel, by decide +kernel⟩
  refine F.okX sc (fun vs H Q E h => ?_) fun cdv A outer s H vs Q E hr h => ⟨_, (pss_one (ps_ost (pv 0) (pv 1))), ?_⟩
  · obtain ⟨a, ys, rfl, hl, _⟩ := h; simpa using hl
  · refine (rd_I1 T.no_NoJoining_part h ?_ fun _ _ q => q)
    obtain ⟨a, ys, rfl, hl, _⟩ := h
    match ys, hl with
    | [_], _ => rfl
theorem ok_init_NoMeanwhile (T : Txt K mg c) {f : Addr} {fd : FuncData} (F : Fun K "__init__" "NoMeanwhile.__init__" (inClass (top 14) 0) f fd) : FnOk P w K mg base (L2.CX P w) 1 f fd ["self", "part"] (spI K (c.cA 13) ["part"]) := by
  have sc : FnScope ["self", "part"] ["self", "part"] (defScope (inClass (top 14) 0)) := ⟨rfl, rfl, rfl, by decide +kernel, rfl, by decide +kernel, by decide +kernel⟩
  refine F.okX sc (fun vs H Q E h => ?_) fun cdv A outer s H vs Q E hr h => ⟨_, (pss_one (ps_ost (pv 0) (pv 1))), ?_⟩
  · obtain ⟨a, ys, rfl, hl, _⟩ := h; simpa using hl
  · refine (rd_I1 T.no_NoMeanwhile_part h ?_ fun _ _ q => q)
    obtain ⟨a, ys, rfl, hl, _⟩ := h
    match ys, hl with
    | [_], _ => rfl
theorem ok_init_NoLine (T : Txt K mg c) {f : Addr} {fd : FuncData} (F : Fun K "__init__" "NoLine.__init__" (inClass (top 15) 0) f fd) : FnOk P w K mg base (L2.CX P w) 1 f fd ["self", "index"] (spI K (c.cA 14) ["index"]) := by
  have sc : FnScope ["self", "index"] ["self", "index"] (defScope (inClass (top 15) 0)) := ⟨rfl, rfl, rfl, by decide +kernel, rfl, by decide +kernel, by decide +kernel⟩
  refine F.okX sc (fun vs H Q E h => ?_) fun cdv A outer s H vs Q E hr h => ⟨_, (pss_one (ps_ost (pv 0) (pv 1))), ?_⟩
  · obtain ⟨a, ys, rfl, hl, _⟩ := h; simpa using hl
  · refine (rd_I1 T.no_NoLine_index h ?_ fun _ _ q => q)
    obtain ⟨a, ys, rfl, hl, _⟩ := h
    match ys, hl with
    | [_], _ => rfl
theorem ok_init_NoCells (T : Txt K mg c) {f : Addr} {fd : FuncData} (F : Fun K "__init__" "NoCells.__init__" (inClass (top 16) 0) f fd) : FnOk P w K mg base (L2.CX P w) 1 f fd ["self", "index"] (spI K (c.cA 15) ["index"]) := by
  have sc : FnScope ["self", "index"] ["self", "index"] (defScope (inClass (top 16) 0)) := ⟨rfl, rfl, rfl, by decide +kernel, rfl, by decide +kernel, by decide +kernel⟩
  refine F.okX sc (fun vs H Q E h => ?_) fun cdv A outer s H vs Q E hr h => ⟨_, (pss_one (ps_ost (pv 0) (pv 1))), ?_⟩
  · obtain ⟨a, ys, rfl, hl, _⟩ := h; simpa using hl
  · refine (rd_I1 T.no_NoCells_index h ?_ fun _ _ q => q)
    obtain ⟨a, ys, rfl, hl, _⟩ := h
    match ys, hl with
    | [_], _ => rfl
theorem ok_init_Refused (T : Txt K mg c) {f : Addr} {fd : FuncData} (F : Fun K "__init__" "Refused.__init__" (inClass (top 17) 0) f fd) : FnOk P w K mg base (L2.CX P w) 1 f fd ["self", "index", "why"] (spI K (c.cA 16) ["index", "why"]) := by
  have sc : FnScope ["self", "index", "why"] ["self", "index", "why"] (defScope (inClass (top 17) 0)) := ⟨rfl, rfl, rfl, by decide +kernel, rfl, by decide +kernel, by decide +kernel⟩
  refine F.okX sc (fun vs H Q E h => ?_) fun cdv A outer s H vs Q E hr h => ⟨_, (pss_cons (ps_ost (pv 0) (pv 1)) (pss_one (ps_ost (pv 0) (pv 2)))), ?_⟩
  · obtain ⟨a, ys, rfl, hl, _⟩ := h; simpa using hl
  · refine (rd_I2 T.no_Refused_index T.no_Refused_why h ?_ fun _ _ q => q)
    obtain ⟨a, ys, rfl, hl, _⟩ := h
    match ys, hl with
    | [_, _], _ => rfl
theorem ok_init_NoText (T : Txt K mg c) {f : Addr} {fd : FuncData} (F : Fun K "__init__" "NoText.__init__" (inClass (top 18) 0) f fd) : FnOk P w K mg base (L2.CX P w) 1 f fd ["self", "part"] (spI K (c.cA 17) ["part"]) := by
  have sc : FnScope ["self", "part"] ["self", "part"] (defScope (inClass (top 18) 0)) := ⟨rfl, rfl, rfl, by decide +kernel, rfl, by decide +kernel, by decide +kernel⟩
  refine F.okX sc (fun vs H Q E h => ?_) fun cdv A outer s H vs Q E hr h => ⟨_, (pss_one (ps_ost (pv 0) (pv 1))), ?_⟩
  · obtain ⟨a, ys, rfl, hl, _⟩ := h; simpa using hl
  · refine (rd_I1 T.no_NoText_part h ?_ fun _ _ q => q)
    obtain ⟨a, ys, rfl, hl, _⟩ := h
    match ys, hl with
    | [_], _ => rfl
theorem ok_init_NoName (T : Txt K mg c) {f : Addr} {fd : FuncData} (F : Fun K "__init__" "NoName.__init__" (inClass (top 19) 0) f fd) : FnOk P w K mg base (L2.CX P w) 1 f fd ["self", "name"] (spI K (c.cA 18) ["name"]) := by
  have sc : FnScope ["self", "name"] ["self", "name"] (defScope (inClass (top 19) 0)) := ⟨rfl, rfl, rfl, by decide +kernel, rfl, by decide +kernel, by decide +kernel⟩
  refine F.okX sc (fun vs H Q E h => ?_) fun cdv A outer s H vs Q E hr h => ⟨_, (pss_one (ps_ost (pv 0) (pv 1))), ?_⟩
  · obtain ⟨a, ys, rfl, hl, _⟩ := h; simpa using hl
  · refine (rd_I1 T.no_NoName_name h ?_ fun _ _ q => q)
    obtain ⟨a, ys, rfl, hl, _⟩ := h
    match ys, hl with
    | [_], _ => rfl
theorem ok_init_NoLimit (T : Txt K mg c) {f : Addr} {fd : FuncData} (F : Fun K "__init__" "NoLimit.__init__" (inClass (top 20) 0) f fd) : FnOk P w K mg base (L2.CX P w) 1 f fd ["self", "limit"] (spI K (c.cA 19) ["limit"]) := by
  have sc : FnScope ["self", "limit"] ["self", "limit"] (defScope (inClass (top 20) 0)) := ⟨rfl, rfl, rfl, by decide +kernel, rfl, by decide +kernel, by decide +kernel⟩
  refine F.okX sc (fun vs H Q E h => ?_) fun cdv A outer s H vs Q E hr h => ⟨_, (pss_one (ps_ost (pv 0) (pv 1))), ?_⟩
  · obtain ⟨a, ys, rfl, hl, _⟩ := h; simpa using hl
  · refine (rd_I1 T.no_NoLimit_limit h ?_ fun _ _ q => q)
    obtain ⟨a, ys, rfl, hl, _⟩ := h
    match ys, hl with
    | [_], _ => rfl
theorem ok_init_Full (T : Txt K mg c) {f : Addr} {fd : FuncData} (F : Fun K "__init__" "Full.__init__" (inClass (top 21) 0) f fd) : FnOk P w K mg base (L2.CX P w) 1 f fd ["self", "limit"] (spI K (c.cA 20) ["limit"]) := by
  have sc : FnScope ["self", "limit"] ["self", "limit"] (defScope (inClass (top 21) 0)) := ⟨rfl, rfl, rfl, by decide +kernel, rfl, by decide +kernel, by decide +kernel⟩
  refine F.okX sc (fun vs H Q E h => ?_) fun cdv A outer s H vs Q E hr h => ⟨_, (pss_one (ps_ost (pv 0) (pv 1))), ?_⟩
  · obtain ⟨a, ys, rfl, hl, _⟩ := h; simpa using hl
  · refine (rd_I1 T.no_Full_limit h ?_ fun _ _ q => q)
    obtain ⟨a, ys, rfl, hl, _⟩ := h
    match ys, hl with
    | [_], _ => rfl
theorem sc__law_spool : FnScope ["_law_script", "_law_at", "_law_cell"] ["_law_script", "_law_at"] (defScope (top 23)) := ⟨rfl, rfl, rfl, by decide +kernel, rfl, by decide +kernel, by decide +kernel⟩
theorem ok__law_spool (T : Txt K mg c) : Def P w K mg base c 1 "_law_spool" (top 23) ["_law_script", "_law_at"] f__law_spool := by
  obtain ⟨f, fd, hm, F, hb⟩ := T.d__law_spool
  refine ⟨f, fd, hm, F, hb, ok_def (N := ["_law_script", "_law_at", "_law_cell"]) (sem := b__law_spool) [true, true] T.hK F sc__law_spool rfl (by decide) ?_⟩
  rintro X W ⟨cdv, A, outer, s, H, E, rfl⟩ D
  exact (ss_cons (ss_set (i := 2) D.nd rfl (by first | exact Or.inl rfl | exact Or.inr rfl) rfl (se_if (t_lt (Dk.s D) (so_nm (pv 1)) (so_ev (e_len (Dk.s D) T.b_len (by rfl) (so_nm (pv 0))))) (e_ix (Dk.s D) (so_nm (pv 0)) (so_nm (pv 1)) (fun _ _ => rfl)) se_int))
    (ss_one (ss_ret (e_disp (sp_cons (se_str (by decide +kernel)) (e_max2 D T.b_max (by rfl) (so_ev se_int) (so_ev (w_sub (Dk.s D) (so_ev (e_abs (Dk.s D) T.b_abs (by rfl) (so_nm (pv 2)))) (so_ev (w_pow (Dk.s D) (so_ev se_int) (so_ev se_int)))))) (sp_cons (se_str (by decide +kernel)) (w_add (Dk.s D) (so_ev (w_mul (Dk.s D) (so_ev (w_mod (Dk.s D) (so_ev (e_int (Dk.s D) T.b_int (by rfl) (so_nm (pv 2)))) (so_ev (w_add (Dk.s D) (so_ev (w_pow (Dk.s D) (so_ev se_int) (so_ev se_int))) (so_ev se_int))))) (so_ev se_int))) (so_nm (pv 1))) (sp_cons (se_str (by decide +kernel)) se_int sp_nil)))))))
theorem sc__law_pull : FnScope ["_law_spool_here", "_law_below", "_law_digit", "_law_stir"] ["_law_spool_here", "_law_below"] (defScope (top 24)) := ⟨rfl, rfl, rfl, by decide +kernel, rfl, by decide +kernel, by decide +kernel⟩
theorem ok__law_pull (T : Txt K mg c) : Def P w K mg base c 1 "_law_pull" (top 24) ["_law_spool_here", "_law_below"] f__law_pull := by
  obtain ⟨f, fd, hm, F, hb⟩ := T.d__law_pull
  refine ⟨f, fd, hm, F, hb, ok_def (N := ["_law_spool_here", "_law_below", "_law_digit", "_law_stir"]) (sem := b__law_pull) [true, true] T.hK F sc__law_pull rfl (by decide) ?_⟩
  rintro X W ⟨cdv, A, outer, s, H, E, rfl⟩ D
  exact (ss_cons (ss_if (t_gt (Dk.s D) (so_ev (e_dIx (Dk.s D) (so_nm (pv 0)) (so_ev (se_str (by decide +kernel))) (fun _ _ => rfl))) (so_ev se_int)) (ss_cons (ss_set (i := 2) D.nd rfl (by first | exact Or.inl rfl | exact Or.inr rfl) rfl (w_mod (Dk.s D) (so_ev (e_intS (Dk.s D) T.b_int (by rfl) (so_ev (e_dIx (Dk.s D) (so_nm (pv 0)) (so_ev (se_str (by decide +kernel))) (fun _ _ => rfl))))) (so_nm (pv 1))))
    (ss_cons (ss_putD (Dk.s D) (pv 0) (w_div (Dk.s D) (so_ev (e_dIx (Dk.s D) (so_nm (pv 0)) (so_ev (se_str (by decide +kernel))) (fun _ _ => rfl))) (so_nm (pv 1))) (se_str (by decide +kernel)))
    (ss_one (ss_ret (se_mv (pv 2)))))) ss_nil)
    (ss_cons (ss_putD (Dk.s D) (pv 0) (w_add (Dk.s D) (so_ev (e_dIx (Dk.s D) (so_nm (pv 0)) (so_ev (se_str (by decide +kernel))) (fun _ _ => rfl))) (so_ev se_int)) (se_str (by decide +kernel)))
    (ss_cons (ss_set (i := 3) D.nd rfl (by first | exact Or.inl rfl | exact Or.inr rfl) rfl (w_pow (Dk.s D) (so_ev (e_intS (Dk.s D) T.b_int (by rfl) (so_ev (w_add (Dk.s D) (so_ev (e_dIx (Dk.s D) (so_nm (pv 0)) (so_ev (se_str (by decide +kernel))) (fun _ _ => rfl))) (so_ev (w_mul (Dk.s D) (so_ev (w_mul (Dk.s D) (so_ev se_int) (so_ev (e_dIx (Dk.s D) (so_nm (pv 0)) (so_ev (se_str (by decide +kernel))) (fun _ _ => rfl))))) (so_ev (e_dIx (Dk.s D) (so_nm (pv 0)) (so_ev (se_str (by decide +kernel))) (fun _ _ => rfl))))))))) (so_ev se_int)))
    (ss_cons (ss_set (i := 3) D.nd rfl (by first | exact Or.inl rfl | exact Or.inr rfl) rfl (w_add (Dk.s D) (so_ev (w_mod (Dk.s D) (so_ev (e_int (Dk.s D) T.b_int (by rfl) (so_nm (pv 3)))) (so_ev se_int))) (so_ev (w_mul (Dk.s D) (so_ev se_int) (so_ev (e_dIx (Dk.s D) (so_nm (pv 0)) (so_ev (se_str (by decide +kernel))) (fun _ _ => rfl)))))))
    (ss_cons (ss_set (i := 3) D.nd rfl (by first | exact Or.inl rfl | exact Or.inr rfl) rfl (w_mod (Dk.s D) (so_ev (e_int (Dk.s D) T.b_int (by rfl) (so_ev (w_pow (Dk.s D) (so_nm (pv 3)) (so_ev se_int))))) (so_ev se_int)))
    (ss_one (ss_ret (w_mod (Dk.s D) (so_ev (w_div (Dk.s D) (so_nm (pv 3)) (so_ev se_int))) (so_nm (pv 1))))))))))
theorem sc__law_thing : FnScope ["_law_spool_here", "_law_word", "_law_some", "_law_k"] ["_law_spool_here"] (defScope (top 30)) := ⟨rfl, rfl, rfl, by decide +kernel, rfl, by decide +kernel, by decide +kernel⟩
theorem ok__law_thing (T : Txt K mg c) : Def P w K mg base c 2 "_law_thing" (top 30) ["_law_spool_here"] f__law_thing := by
  obtain ⟨f, fd, hm, F, hb⟩ := T.d__law_thing
  refine ⟨f, fd, hm, F, hb, ok_def (N := ["_law_spool_here", "_law_word", "_law_some", "_law_k"]) (sem := b__law_thing) [true] T.hK F sc__law_thing rfl (by decide) ?_⟩
  rintro X W ⟨cdv, A, outer, s, H, E, rfl⟩ D
  exact (ss_cons (ss_set (i := 1) D.nd rfl (by first | exact Or.inl rfl | exact Or.inr rfl) rfl (se_join D.K (by decide +kernel) (so_ev (se_comp (own := [("_law_k", 3)]) D.calm D.nd (si_range1 (by rfl) T.b_range (e_call D (ok__law_pull T) (by first | decide | exact Nat.le_trans (by decide) (Nat.le_add_right _ _)) (by rfl) (sos_cons (so_nm (pv 0)) (sos_cons (so_ev se_int) sos_nil)) rfl)) ⟨blkOk_by (by kernel_rfl), (fun s H C cl fp => (sg_name (D.blk s H _ _ fp).nd rfl (by first | exact Or.inl rfl | exact Or.inr rfl) rfl)), (fun s H C cl fp => pts_yes), (fun s H C cl fp => (e_ix (Dk.s (D.blk s H _ _ fp)) (so_ev (se_str (by decide +kernel))) (so_ev (e_call (D.blk s H _ _ fp) (ok__law_pull T) (by first | decide | exact Nat.le_trans (by decide) (Nat.le_add_right _ _)) (by rfl) (sos_cons (so_nm (pv 0)) (sos_cons (so_ev se_int) sos_nil)) rfl)) (fun _ _ => rfl)))⟩))))
    (ss_cons (ss_set (i := 2) D.nd rfl (by first | exact Or.inl rfl | exact Or.inr rfl) rfl (se_lst (sa_cons (e_call D (ok__law_pull T) (by first | decide | exact Nat.le_trans (by decide) (Nat.le_add_right _ _)) (by rfl) (sos_cons (so_nm (pv 0)) (sos_cons (so_ev (w_pow (Dk.s D) (so_ev se_int) (so_ev se_int))) sos_nil)) rfl) (sa_cons (w_sub (Dk.s D) (so_ev (w_neg (Dk.s D) (so_ev se_int))) (so_ev (e_call D (ok__law_pull T) (by first | decide | exact Nat.le_trans (by decide) (Nat.le_add_right _ _)) (by rfl) (sos_cons (so_nm (pv 0)) (sos_cons (so_ev se_int) sos_nil)) rfl))) (sa_cons (se_nm (pv 1)) (sa_cons (se_tup (sa_cons (se_nm (pv 1)) (sa_cons se_int sa_nil)) (hn := (aCons_len (aCons_len aNil_len)))) (sa_cons (se_frz (se_lst (sa_cons (se_nm (pv 1)) (sa_cons se_non sa_nil)) (hn := (aCons_len (aCons_len aNil_len))))) (sa_cons se_non (sa_cons se_bl sa_nil))))))) (hn := (aCons_len (aCons_len (aCons_len (aCons_len (aCons_len (aCons_len (aCons_len aNil_len))))))))))
    (ss_one (ss_ret (e_ix (Dk.s D) (so_nm (pv 2)) (so_ev (e_call D (ok__law_pull T) (by first | decide | exact Nat.le_trans (by decide) (Nat.le_add_right _ _)) (by rfl) (sos_cons (so_nm (pv 0)) (sos_cons (so_ev (e_len (Dk.s D) T.b_len (by rfl) (so_nm (pv 2)))) sos_nil)) rfl)) (fun _ _ => rfl))))))
theorem sc__law_like : FnScope ["_law_found", "_law_due", "_law_one", "_law_other"] ["_law_found", "_law_due"] (defScope (top 25)) := ⟨rfl, rfl, rfl, by decide +kernel, rfl, by decide +kernel, by decide +kernel⟩
theorem ok__law_like (T : Txt K mg c) : ∀ n, Def P w K mg base c (1 + n) "_law_like" (top 25) ["_law_found", "_law_due"] (f__law_like n)
  | 0 => by
    obtain ⟨f, fd, hm, F, hb⟩ := T.d__law_like
    exact ⟨f, fd, hm, F, hb, fng_bad⟩
  | n + 1 => by
    have IH := ok__law_like T n
    obtain ⟨f, fd, hm, F, hb⟩ := T.d__law_like
    refine ⟨f, fd, hm, F, hb, ok_def (N := ["_law_found", "_law_due", "_law_one", "_law_other"]) (sem := b__law_like (f__law_like n)) [true, true] T.hK F sc__law_like rfl (by decide) ?_⟩
    rintro X W ⟨cdv, A, outer, s, H, E, rfl⟩ D
    exact (ss_cons (ss_if (SW.st (sw_or (st_val (e_isa (Dk.s D) .bool T.b_isinstance (by rfl) T.b_bool (by rfl) (by decide +kernel) (by decide) (by decide) (so_nm (pv 1)))) (sw_or1 (st_val (e_isa (Dk.s D) .bool T.b_isinstance (by rfl) T.b_bool (by rfl) (by decide +kernel) (by decide) (by decide) (so_nm (pv 0))))))) (ss_one (ss_ret (se_and (e_isa (Dk.s D) .bool T.b_isinstance (by rfl) T.b_bool (by rfl) (by decide +kernel) (by decide) (by decide) (so_nm (pv 1))) (se_and (e_isa (Dk.s D) .bool T.b_isinstance (by rfl) T.b_bool (by rfl) (by decide +kernel) (by decide) (by decide) (so_nm (pv 0))) (se_one (e_eq (Dk.s D) (so_nm (pv 0)) (so_nm (pv 1)))))))) ss_nil)
    (ss_cons (ss_if (SW.st (sw_or (t_isN (Dk.s D) (so_nm (pv 1))) (sw_or1 (t_isN (Dk.s D) (so_nm (pv 0)))))) (ss_one (ss_ret (se_and (e_isN (Dk.s D) (so_nm (pv 1))) (se_one (e_isN (Dk.s D) (so_nm (pv 0))))))) ss_nil)
    (ss_cons (ss_if (st_val (e_isa2 (Dk.s D) .list .tuple T.b_isinstance (by rfl) T.b_list (by rfl) (by decide +kernel) T.b_tuple (by rfl) (by decide +kernel) (by decide) (by decide) (by decide) (by decide) (so_nm (pv 1)))) (ss_cons (ss_if (SW.st (sw_or (t_ne (Dk.s D) (so_ev (e_isa (Dk.s D) .list T.b_isinstance (by rfl) T.b_list (by rfl) (by decide +kernel) (by decide) (by decide) (so_nm (pv 1)))) (so_ev (e_isa (Dk.s D) .list T.b_isinstance (by rfl) T.b_list (by rfl) (by decide +kernel) (by decide) (by decide) (so_nm (pv 0))))) (sw_or1 (t_ne (Dk.s D) (so_ev (e_isa (Dk.s D) .tuple T.b_isinstance (by rfl) T.b_tuple (by rfl) (by decide +kernel) (by decide) (by decide) (so_nm (pv 1)))) (so_ev (e_isa (Dk.s D) .tuple T.b_isinstance (by rfl) T.b_tuple (by rfl) (by decide +kernel) (by decide) (by decide) (so_nm (pv 0)))))))) (ss_one (ss_ret se_bl)) ss_nil)
    (ss_one (ss_ret (se_and (e_eq (Dk.s D) (so_ev (e_len (Dk.s D) T.b_len (by rfl) (so_nm (pv 0)))) (so_ev (e_len (Dk.s D) T.b_len (by rfl) (so_nm (pv 1))))) (se_one (e_all D T.b_all (by rfl) (so_ev (se_comp (own := [("_law_one", 2), ("_law_other", 3)]) D.calm D.nd (si_zipA D.K (by rfl) T.b_zip (so_ev (se_nm (pv 0))) (so_ev (se_nm (pv 1)))) ⟨blkOk_by (by kernel_rfl), (fun s H C cl fp => (sg_tup (D.blk s H _ _ fp).K (D.blk s H _ _ fp).calm (sgs_cons (sg_name (D.blk s H _ _ fp).nd rfl (by first | exact Or.inl rfl | exact Or.inr rfl) rfl) (sgs_cons (sg_name (D.blk s H _ _ fp).nd rfl (by first | exact Or.inl rfl | exact Or.inr rfl) rfl) sgs_nil)))), (fun s H C cl fp => pts_yes), (fun s H C cl fp => (e_call (D.blk s H _ _ fp) IH (Nat.le_refl _) (by rfl) (sos_cons (so_nm (pv 2)) (sos_cons (so_nm (pv 3)) sos_nil)) rfl))⟩)))))))) ss_nil)
    (ss_cons (ss_if (st_val (e_isa (Dk.s D) .int T.b_isinstance (by rfl) T.b_int (by rfl) (by decide +kernel) (by decide) (by decide) (so_nm (pv 1)))) (ss_one (ss_ret (se_and (e_isa (Dk.s D) .int T.b_isinstance (by rfl) T.b_int (by rfl) (by decide +kernel) (by decide) (by decide) (so_nm (pv 0))) (se_one (e_eq (Dk.s D) (so_nm (pv 0)) (so_nm (pv 1))))))) ss_nil)
    (ss_one (ss_ret (se_and (e_isa (Dk.s D) .str T.b_isinstance (by rfl) T.b_str (by rfl) (by decide +kernel) (by decide) (by decide) (so_nm (pv 0))) (se_one (e_eq (Dk.s D) (so_nm (pv 0)) (so_nm (pv 1)))))))))))
theorem sc__law_raise_more : FnScope ["_law_way", "_law_one", "_law_other"] ["_law_way", "_law_one", "_law_other"] (defScope (top 27)) := ⟨rfl, rfl, rfl, by decide +kernel, rfl, by decide +kernel, by decide +kernel⟩
theorem ok__law_raise_more (T : Txt K mg c) : Def P w K mg base c 3 "_law_raise_more" (top 27) ["_law_way", "_law_one", "_law_other"] f__law_raise_more := by
  obtain ⟨f, fd, hm, F, hb⟩ := T.d__law_raise_more
  refine ⟨f, fd, hm, F, hb, ok_def (N := ["_law_way", "_law_one", "_law_other"]) (sem := b__law_raise_more) [true, true, true] T.hK F sc__law_raise_more rfl (by decide) ?_⟩
  rintro X W ⟨cdv, A, outer, s, H, E, rfl⟩ D
  exact (ss_cons (ss_if (t_eq (Dk.s D) (so_nm (pv 0)) (so_ev se_int)) (ss_one (let ⟨fI, fdI, iC, tI, FI, bI⟩ := T.i_NoJoining; e_raise (fl := ["part"]) D T.x_NoJoining T.o_NoJoining T.cf_NoJoining (by decide) iC tI (ok_init_NoJoining T FI) (by decide) bI (by rfl) (sa_cons (se_nm (pv 1)) sa_nil) (aCons_len aNil_len) (by decide))) ss_nil)
    (ss_cons (ss_if (t_eq (Dk.s D) (so_nm (pv 0)) (so_ev se_int)) (ss_one (let ⟨fI, fdI, iC, tI, FI, bI⟩ := T.i_NoMeanwhile; e_raise (fl := ["part"]) D T.x_NoMeanwhile T.o_NoMeanwhile T.cf_NoMeanwhile (by decide) iC tI (ok_init_NoMeanwhile T FI) (by decide) bI (by rfl) (sa_cons (se_nm (pv 1)) sa_nil) (aCons_len aNil_len) (by decide))) ss_nil)
    (ss_cons (ss_if (t_eq (Dk.s D) (so_nm (pv 0)) (so_ev se_int)) (ss_one (let ⟨fI, fdI, iC, tI, FI, bI⟩ := T.i_NoLine; e_raise (fl := ["index"]) D T.x_NoLine T.o_NoLine T.cf_NoLine (by decide) iC tI (ok_init_NoLine T FI) (by decide) bI (by rfl) (sa_cons (se_nm (pv 1)) sa_nil) (aCons_len aNil_len) (by decide))) ss_nil)
    (ss_cons (ss_if (t_eq (Dk.s D) (so_nm (pv 0)) (so_ev se_int)) (ss_one (let ⟨fI, fdI, iC, tI, FI, bI⟩ := T.i_NoCells; e_raise (fl := ["index"]) D T.x_NoCells T.o_NoCells T.cf_NoCells (by decide) iC tI (ok_init_NoCells T FI) (by decide) bI (by rfl) (sa_cons (se_nm (pv 1)) sa_nil) (aCons_len aNil_len) (by decide))) ss_nil)
    (ss_cons (ss_if (t_eq (Dk.s D) (so_nm (pv 0)) (so_ev se_int)) (ss_one (let ⟨fI, fdI, iC, tI, FI, bI⟩ := T.i_Refused; e_raise (fl := ["index", "why"]) D T.x_Refused T.o_Refused T.cf_Refused (by decide) iC tI (ok_init_Refused T FI) (by decide) bI (by rfl) (sa_cons (se_nm (pv 1)) (sa_cons (se_nm (pv 2)) sa_nil)) (aCons_len (aCons_len aNil_len)) (by decide))) ss_nil)
    (ss_cons (ss_if (t_eq (Dk.s D) (so_nm (pv 0)) (so_ev se_int)) (ss_one (let ⟨fI, fdI, iC, tI, FI, bI⟩ := T.i_NoText; e_raise (fl := ["part"]) D T.x_NoText T.o_NoText T.cf_NoText (by decide) iC tI (ok_init_NoText T FI) (by decide) bI (by rfl) (sa_cons (se_nm (pv 1)) sa_nil) (aCons_len aNil_len) (by decide))) ss_nil)
    (ss_cons (ss_if (t_eq (Dk.s D) (so_nm (pv 0)) (so_ev se_int)) (ss_one (let ⟨fI, fdI, iC, tI, FI, bI⟩ := T.i_NoName; e_raise (fl := ["name"]) D T.x_NoName T.o_NoName T.cf_NoName (by decide) iC tI (ok_init_NoName T FI) (by decide) bI (by rfl) (sa_cons (se_nm (pv 1)) sa_nil) (aCons_len aNil_len) (by decide))) ss_nil)
    (ss_cons (ss_if (t_eq (Dk.s D) (so_nm (pv 0)) (so_ev se_int)) (ss_one (let ⟨fI, fdI, iC, tI, FI, bI⟩ := T.i_NoLimit; e_raise (fl := ["limit"]) D T.x_NoLimit T.o_NoLimit T.cf_NoLimit (by decide) iC tI (ok_init_NoLimit T FI) (by decide) bI (by rfl) (sa_cons (se_nm (pv 1)) sa_nil) (aCons_len aNil_len) (by decide))) ss_nil)
    (ss_cons (ss_if (t_eq (Dk.s D) (so_nm (pv 0)) (so_ev se_int)) (ss_one (let ⟨fI, fdI, iC, tI, FI, bI⟩ := T.i_Full; e_raise (fl := ["limit"]) D T.x_Full T.o_Full T.cf_Full (by decide) iC tI (ok_init_Full T FI) (by decide) bI (by rfl) (sa_cons (se_nm (pv 1)) sa_nil) (aCons_len aNil_len) (by decide))) ss_nil)
    (ss_one (e_raise1t D T.x_SheetError PySem.F.excBase_ValueError T.q_SheetError (by rfl) T.b_str (by rfl) (so_nm (pv 1)))))))))))))
theorem sc__law_raise_some : FnScope ["_law_way", "_law_one", "_law_other"] ["_law_way", "_law_one", "_law_other"] (defScope (top 26)) := ⟨rfl, rfl, rfl, by decide +kernel, rfl, by decide +kernel, by decide +kernel⟩
theorem ok__law_raise_some (T : Txt K mg c) : Def P w K mg base c 4 "_law_raise_some" (top 26) ["_law_way", "_law_one", "_law_other"] f__law_raise_some := by
  obtain ⟨f, fd, hm, F, hb⟩ := T.d__law_raise_some
  refine ⟨f, fd, hm, F, hb, ok_def (N := ["_law_way", "_law_one", "_law_other"]) (sem := b__law_raise_some) [true, true, true] T.hK F sc__law_raise_some rfl (by decide) ?_⟩
  rintro X W ⟨cdv, A, outer, s, H, E, rfl⟩ D
  exact (ss_cons (ss_if (t_eq (Dk.s D) (so_nm (pv 0)) (so_ev se_int)) (ss_one (e_raise1t D T.x_NoColumns PySem.F.excBase_ValueError T.q_NoColumns (by rfl) T.b_str (by rfl) (so_nm (pv 1)))) ss_nil)
    (ss_cons (ss_if (t_eq (Dk.s D) (so_nm (pv 0)) (so_ev se_int)) (ss_one (e_raise1t D T.x_NotNeutral PySem.F.excBase_ValueError T.q_NotNeutral (by rfl) T.b_str (by rfl) (so_nm (pv 1)))) ss_nil)
    (ss_cons (ss_if (t_eq (Dk.s D) (so_nm (pv 0)) (so_ev se_int)) (ss_one (e_raise1t D T.x_NotKeyed PySem.F.excBase_ValueError T.q_NotKeyed (by rfl) T.b_str (by rfl) (so_nm (pv 1)))) ss_nil)
    (ss_cons (ss_if (t_eq (Dk.s D) (so_nm (pv 0)) (so_ev se_int)) (ss_one (e_raise1t D T.x_NotSame PySem.F.excBase_ValueError T.q_NotSame (by rfl) T.b_str (by rfl) (so_nm (pv 1)))) ss_nil)
    (ss_cons (ss_if (t_eq (Dk.s D) (so_nm (pv 0)) (so_ev se_int)) (ss_one (e_raise1t D T.x_NoCommand PySem.F.excBase_ValueError T.q_NoCommand (by rfl) T.b_str (by rfl) (so_nm (pv 1)))) ss_nil)
    (ss_cons (ss_if (t_eq (Dk.s D) (so_nm (pv 0)) (so_ev se_int)) (ss_one (e_raise1t D T.x_NothingToUndo PySem.F.excBase_ValueError T.q_NothingToUndo (by rfl) T.b_str (by rfl) (so_nm (pv 1)))) ss_nil)
    (ss_cons (ss_if (t_eq (Dk.s D) (so_nm (pv 0)) (so_ev se_int)) (ss_one (let ⟨fI, fdI, iC, tI, FI, bI⟩ := T.i_NoKey; e_raise (fl := ["key"]) D T.x_NoKey T.o_NoKey T.cf_NoKey (by decide) iC tI (ok_init_NoKey T FI) (by decide) bI (by rfl) (sa_cons (se_nm (pv 1)) sa_nil) (aCons_len aNil_len) (by decide))) ss_nil)
    (ss_cons (ss_if (t_eq (Dk.s D) (so_nm (pv 0)) (so_ev se_int)) (ss_one (let ⟨fI, fdI, iC, tI, FI, bI⟩ := T.i_NoRow; e_raise (fl := ["key"]) D T.x_NoRow T.o_NoRow T.cf_NoRow (by decide) iC tI (ok_init_NoRow T FI) (by decide) bI (by rfl) (sa_cons (se_nm (pv 1)) sa_nil) (aCons_len aNil_len) (by decide))) ss_nil)
    (ss_cons (ss_if (t_eq (Dk.s D) (so_nm (pv 0)) (so_ev se_int)) (ss_one (let ⟨fI, fdI, iC, tI, FI, bI⟩ := T.i_Missing; e_raise (fl := ["key"]) D T.x_Missing T.o_Missing T.cf_Missing (by decide) iC tI (ok_init_Missing T FI) (by decide) bI (by rfl) (sa_cons (se_nm (pv 1)) sa_nil) (aCons_len aNil_len) (by decide))) ss_nil)
    (ss_cons (ss_if (t_eq (Dk.s D) (so_nm (pv 0)) (so_ev se_int)) (ss_one (let ⟨fI, fdI, iC, tI, FI, bI⟩ := T.i_Clash; e_raise (fl := ["key"]) D T.x_Clash T.o_Clash T.cf_Clash (by decide) iC tI (ok_init_Clash T FI) (by decide) bI (by rfl) (sa_cons (se_nm (pv 1)) sa_nil) (aCons_len aNil_len) (by decide))) ss_nil)
    (ss_cons (ss_if (t_eq (Dk.s D) (so_nm (pv 0)) (so_ev se_int)) (ss_one (let ⟨fI, fdI, iC, tI, FI, bI⟩ := T.i_NoSending; e_raise (fl := ["part"]) D T.x_NoSending T.o_NoSending T.cf_NoSending (by decide) iC tI (ok_init_NoSending T FI) (by decide) bI (by rfl) (sa_cons (se_nm (pv 1)) sa_nil) (aCons_len aNil_len) (by decide))) ss_nil)
    (ss_one (ss_do (e_call D (ok__law_raise_more T) (by first | decide | exact Nat.le_trans (by decide) (Nat.le_add_right _ _)) (by rfl) (sos_cons (so_nm (pv 0)) (sos_cons (so_nm (pv 1)) (sos_cons (so_nm (pv 2)) sos_nil))) rfl))))))))))))))
theorem sc__law_marks : FnScope ["_law_e", "_law_marks_here"] ["_law_e"] (defScope (top 28)) := ⟨rfl, rfl, rfl, by decide +kernel, rfl, by decide +kernel, by decide +kernel⟩
theorem ok__law_marks (T : Txt K mg c) : DefS P w K mg base c 1 "_law_marks" (top 28) ["_law_e"] (nE f__law_marks) := by
  obtain ⟨f, fd, hm, F, hb⟩ := T.d__law_marks
  refine ⟨f, fd, hm, F, hb, ok_defS (N := ["_law_e", "_law_marks_here"]) (sem := b__law_marks) [true] T.hK F sc__law_marks rfl (by decide) ?_⟩
  rintro X W ⟨cdv, A, outer, s, H, E, rfl⟩ D a pn
  exact (ss_cons (ss_set (i := 1) (Ds.suite (Dk.s D) a pn).nd rfl (by first | exact Or.inl rfl | exact Or.inr rfl) rfl (se_lst (sa_cons (e_ix1 (ks := [1]) T.xall T.xg T.b_isinstance (by rfl) (ce_own T.x_NoColumns (by rfl)) (T.s_NoColumns.kit T.x_NoColumns (by decide) (by decide)) (so_nm (pv 0))) (sa_cons (e_ix1 (ks := [2]) T.xall T.xg T.b_isinstance (by rfl) (ce_own T.x_NotNeutral (by rfl)) (T.s_NotNeutral.kit T.x_NotNeutral (by decide) (by decide)) (so_nm (pv 0))) (sa_cons (e_ix1 (ks := [3]) T.xall T.xg T.b_isinstance (by rfl) (ce_own T.x_NotKeyed (by rfl)) (T.s_NotKeyed.kit T.x_NotKeyed (by decide) (by decide)) (so_nm (pv 0))) (sa_cons (e_ix1 (ks := [4]) T.xall T.xg T.b_isinstance (by rfl) (ce_own T.x_NotSame (by rfl)) (T.s_NotSame.kit T.x_NotSame (by decide) (by decide)) (so_nm (pv 0))) sa_nil)))) (hn := (aCons_len (aCons_len (aCons_len (aCons_len aNil_len)))))))
    (ss_cons (ss_set (i := 1) (Ds.suite (Dk.s D) a pn).nd rfl (by first | exact Or.inl rfl | exact Or.inr rfl) rfl (w_add (Ds.suite (Dk.s D) a pn) (so_nm (pv 1)) (so_ev (se_lst (sa_cons (e_ix1 (ks := [5]) T.xall T.xg T.b_isinstance (by rfl) (ce_own T.x_NoCommand (by rfl)) (T.s_NoCommand.kit T.x_NoCommand (by decide) (by decide)) (so_nm (pv 0))) (sa_cons (e_ix1 (ks := [6]) T.xall T.xg T.b_isinstance (by rfl) (ce_own T.x_NothingToUndo (by rfl)) (T.s_NothingToUndo.kit T.x_NothingToUndo (by decide) (by decide)) (so_nm (pv 0))) (sa_cons (e_ix1 (ks := [7]) T.xall T.xg T.b_isinstance (by rfl) (ce_own T.x_NoKey (by rfl)) (T.s_NoKey.kit T.x_NoKey (by decide) (by decide)) (so_nm (pv 0))) (sa_cons (e_ix1 (ks := [8]) T.xall T.xg T.b_isinstance (by rfl) (ce_own T.x_NoRow (by rfl)) (T.s_NoRow.kit T.x_NoRow (by decide) (by decide)) (so_nm (pv 0))) sa_nil)))) (hn := (aCons_len (aCons_len (aCons_len (aCons_len aNil_len)))))))))
    (ss_cons (ss_set (i := 1) (Ds.suite (Dk.s D) a pn).nd rfl (by first | exact Or.inl rfl | exact Or.inr rfl) rfl (w_add (Ds.suite (Dk.s D) a pn) (so_nm (pv 1)) (so_ev (se_lst (sa_cons (e_ix1 (ks := [9]) T.xall T.xg T.b_isinstance (by rfl) (ce_own T.x_Missing (by rfl)) (T.s_Missing.kit T.x_Missing (by decide) (by decide)) (so_nm (pv 0))) (sa_cons (e_ix1 (ks := [10]) T.xall T.xg T.b_isinstance (by rfl) (ce_own T.x_Clash (by rfl)) (T.s_Clash.kit T.x_Clash (by decide) (by decide)) (so_nm (pv 0))) (sa_cons (e_ix1 (ks := [11]) T.xall T.xg T.b_isinstance (by rfl) (ce_own T.x_NoSending (by rfl)) (T.s_NoSending.kit T.x_NoSending (by decide) (by decide)) (so_nm (pv 0))) (sa_cons (e_ix1 (ks := [12]) T.xall T.xg T.b_isinstance (by rfl) (ce_own T.x_NoJoining (by rfl)) (T.s_NoJoining.kit T.x_NoJoining (by decide) (by decide)) (so_nm (pv 0))) sa_nil)))) (hn := (aCons_len (aCons_len (aCons_len (aCons_len aNil_len)))))))))
    (ss_cons (ss_set (i := 1) (Ds.suite (Dk.s D) a pn).nd rfl (by first | exact Or.inl rfl | exact Or.inr rfl) rfl (w_add (Ds.suite (Dk.s D) a pn) (so_nm (pv 1)) (so_ev (se_lst (sa_cons (e_ix1 (ks := [13]) T.xall T.xg T.b_isinstance (by rfl) (ce_own T.x_NoMeanwhile (by rfl)) (T.s_NoMeanwhile.kit T.x_NoMeanwhile (by decide) (by decide)) (so_nm (pv 0))) (sa_cons (e_ix1 (ks := [14]) T.xall T.xg T.b_isinstance (by rfl) (ce_own T.x_NoLine (by rfl)) (T.s_NoLine.kit T.x_NoLine (by decide) (by decide)) (so_nm (pv 0))) (sa_cons (e_ix1 (ks := [15]) T.xall T.xg T.b_isinstance (by rfl) (ce_own T.x_NoCells (by rfl)) (T.s_NoCells.kit T.x_NoCells (by decide) (by decide)) (so_nm (pv 0))) (sa_cons (e_ix1 (ks := [16]) T.xall T.xg T.b_isinstance (by rfl) (ce_own T.x_Refused (by rfl)) (T.s_Refused.kit T.x_Refused (by decide) (by decide)) (so_nm (pv 0))) sa_nil)))) (hn := (aCons_len (aCons_len (aCons_len (aCons_len aNil_len)))))))))
    (ss_one (ss_ret (w_add (Ds.suite (Dk.s D) a pn) (so_nm (pv 1)) (so_ev (se_lst (sa_cons (e_ix1 (ks := [17]) T.xall T.xg T.b_isinstance (by rfl) (ce_own T.x_NoText (by rfl)) (T.s_NoText.kit T.x_NoText (by decide) (by decide)) (so_nm (pv 0))) (sa_cons (e_ix1 (ks := [18]) T.xall T.xg T.b_isinstance (by rfl) (ce_own T.x_NoName (by rfl)) (T.s_NoName.kit T.x_NoName (by decide) (by decide)) (so_nm (pv 0))) (sa_cons (e_ix1 (ks := [19]) T.xall T.xg T.b_isinstance (by rfl) (ce_own T.x_NoLimit (by rfl)) (T.s_NoLimit.kit T.x_NoLimit (by decide) (by decide)) (so_nm (pv 0))) (sa_cons (e_ix1 (ks := [20]) T.xall T.xg T.b_isinstance (by rfl) (ce_own T.x_Full (by rfl)) (T.s_Full.kit T.x_Full (by decide) (by decide)) (so_nm (pv 0))) sa_nil)))) (hn := (aCons_len (aCons_len (aCons_len (aCons_len aNil_len))))))))))))))
theorem sc__law_fields_seen : FnScope ["_law_way", "_law_one", "_law_other", "_law_seen", "_law_e"] ["_law_way", "_law_one", "_law_other"] (defScope (top 29)) := ⟨rfl, rfl, rfl, by decide +kernel, rfl, by decide +kernel, by decide +kernel⟩
theorem ok__law_fields_seen (T : Txt K mg c) : Def P w K mg base c 5 "_law_fields_seen" (top 29) ["_law_way", "_law_one", "_law_other"] f__law_fields_seen := by
  obtain ⟨f, fd, hm, F, hb⟩ := T.d__law_fields_seen
  refine ⟨f, fd, hm, F, hb, ok_def (N := ["_law_way", "_law_one", "_law_other", "_law_seen", "_law_e"]) (sem := b__law_fields_seen) [true, true, true] T.hK F sc__law_fields_seen rfl (by decide) ?_⟩
  rintro X W ⟨cdv, A, outer, s, H, E, rfl⟩ D
  exact (ss_cons (ss_set (i := 3) D.nd rfl (by first | exact Or.inl rfl | exact Or.inr rfl) rfl se_non)
    (ss_cons (ss_try D (fun W' pn xe D' => (ss_one (ss_do (e_call D' (ok__law_raise_some T) (by first | decide | exact Nat.le_trans (by decide) (Nat.le_add_right _ _)) (by rfl) (sos_cons (so_nm (pv 0)) (sos_cons (so_nm (pv 1)) (sos_cons (so_nm (pv 2)) sos_nil))) rfl)))) (.consAs (i := 4) rfl rfl rfl ⟨rfl, by decide, .inl T.x_NoKey.mg⟩ (T.s_NoKey.exm T.x_NoKey) (fun a pn => (ss_one (ss_set (i := 3) (Ds.suite (Dk.s D) a pn).nd rfl (by first | exact Or.inl rfl | exact Or.inr rfl) rfl (se_lst (sa_cons (e_xfld (Ds.suite (Dk.s D) a pn) T.x_NoKey T.cf_NoKey (j := 0) rfl (by decide +kernel) T.no_NoKey_key (so_nm (pv 4))) sa_nil) (hn := (aCons_len aNil_len)))))) (.consAs (i := 4) rfl rfl rfl ⟨rfl, by decide, .inl T.x_NoRow.mg⟩ (T.s_NoRow.exm T.x_NoRow) (fun a pn => (ss_one (ss_set (i := 3) (Ds.suite (Dk.s D) a pn).nd rfl (by first | exact Or.inl rfl | exact Or.inr rfl) rfl (se_lst (sa_cons (e_xfld (Ds.suite (Dk.s D) a pn) T.x_NoRow T.cf_NoRow (j := 0) rfl (by decide +kernel) T.no_NoRow_key (so_nm (pv 4))) sa_nil) (hn := (aCons_len aNil_len)))))) (.consAs (i := 4) rfl rfl rfl ⟨rfl, by decide, .inl T.x_Missing.mg⟩ (T.s_Missing.exm T.x_Missing) (fun a pn => (ss_one (ss_set (i := 3) (Ds.suite (Dk.s D) a pn).nd rfl (by first | exact Or.inl rfl | exact Or.inr rfl) rfl (se_lst (sa_cons (e_xfld (Ds.suite (Dk.s D) a pn) T.x_Missing T.cf_Missing (j := 0) rfl (by decide +kernel) T.no_Missing_key (so_nm (pv 4))) sa_nil) (hn := (aCons_len aNil_len)))))) (.consAs (i := 4) rfl rfl rfl ⟨rfl, by decide, .inl T.x_Clash.mg⟩ (T.s_Clash.exm T.x_Clash) (fun a pn => (ss_one (ss_set (i := 3) (Ds.suite (Dk.s D) a pn).nd rfl (by first | exact Or.inl rfl | exact Or.inr rfl) rfl (se_lst (sa_cons (e_xfld (Ds.suite (Dk.s D) a pn) T.x_Clash T.cf_Clash (j := 0) rfl (by decide +kernel) T.no_Clash_key (so_nm (pv 4))) sa_nil) (hn := (aCons_len aNil_len)))))) (.consAs (i := 4) rfl rfl rfl ⟨rfl, by decide, .inl T.x_NoSending.mg⟩ (T.s_NoSending.exm T.x_NoSending) (fun a pn => (ss_one (ss_set (i := 3) (Ds.suite (Dk.s D) a pn).nd rfl (by first | exact Or.inl rfl | exact Or.inr rfl) rfl (se_lst (sa_cons (e_xfld (Ds.suite (Dk.s D) a pn) T.x_NoSending T.cf_NoSending (j := 0) rfl (by decide +kernel) T.no_NoSending_part (so_nm (pv 4))) sa_nil) (hn := (aCons_len aNil_len)))))) (.consAs (i := 4) rfl rfl rfl ⟨rfl, by decide, .inl T.x_NoJoining.mg⟩ (T.s_NoJoining.exm T.x_NoJoining) (fun a pn => (ss_one (ss_set (i := 3) (Ds.suite (Dk.s D) a pn).nd rfl (by first | exact Or.inl rfl | exact Or.inr rfl) rfl (se_lst (sa_cons (e_xfld (Ds.suite (Dk.s D) a pn) T.x_NoJoining T.cf_NoJoining (j := 0) rfl (by decide +kernel) T.no_NoJoining_part (so_nm (pv 4))) sa_nil) (hn := (aCons_len aNil_len)))))) (.consAs (i := 4) rfl rfl rfl ⟨rfl, by decide, .inl T.x_NoMeanwhile.mg⟩ (T.s_NoMeanwhile.exm T.x_NoMeanwhile) (fun a pn => (ss_one (ss_set (i := 3) (Ds.suite (Dk.s D) a pn).nd rfl (by first | exact Or.inl rfl | exact Or.inr rfl) rfl (se_lst (sa_cons (e_xfld (Ds.suite (Dk.s D) a pn) T.x_NoMeanwhile T.cf_NoMeanwhile (j := 0) rfl (by decide +kernel) T.no_NoMeanwhile_part (so_nm (pv 4))) sa_nil) (hn := (aCons_len aNil_len)))))) (.consAs (i := 4) rfl rfl rfl ⟨rfl, by decide, .inl T.x_NoLine.mg⟩ (T.s_NoLine.exm T.x_NoLine) (fun a pn => (ss_one (ss_set (i := 3) (Ds.suite (Dk.s D) a pn).nd rfl (by first | exact Or.inl rfl | exact Or.inr rfl) rfl (se_lst (sa_cons (e_xfld (Ds.suite (Dk.s D) a pn) T.x_NoLine T.cf_NoLine (j := 0) rfl (by decide +kernel) T.no_NoLine_index (so_nm (pv 4))) sa_nil) (hn := (aCons_len aNil_len)))))) (.consAs (i := 4) rfl rfl rfl ⟨rfl, by decide, .inl T.x_NoCells.mg⟩ (T.s_NoCells.exm T.x_NoCells) (fun a pn => (ss_one (ss_set (i := 3) (Ds.suite (Dk.s D) a pn).nd rfl (by first | exact Or.inl rfl | exact Or.inr rfl) rfl (se_lst (sa_cons (e_xfld (Ds.suite (Dk.s D) a pn) T.x_NoCells T.cf_NoCells (j := 0) rfl (by decide +kernel) T.no_NoCells_index (so_nm (pv 4))) sa_nil) (hn := (aCons_len aNil_len)))))) (.consAs (i := 4) rfl rfl rfl ⟨rfl, by decide, .inl T.x_Refused.mg⟩ (T.s_Refused.exm T.x_Refused) (fun a pn => (ss_one (ss_set (i := 3) (Ds.suite (Dk.s D) a pn).nd rfl (by first | exact Or.inl rfl | exact Or.inr rfl) rfl (se_lst (sa_cons (e_xfld (Ds.suite (Dk.s D) a pn) T.x_Refused T.cf_Refused (j := 1) rfl (by decide +kernel) T.no_Refused_index (so_nm (pv 4))) (sa_cons (e_xfld (Ds.suite (Dk.s D) a pn) T.x_Refused T.cf_Refused (j := 0) rfl (by decide +kernel) T.no_Refused_why (so_nm (pv 4))) sa_nil)) (hn := (aCons_len (aCons_len aNil_len))))))) (.consAs (i := 4) rfl rfl rfl ⟨rfl, by decide, .inl T.x_NoText.mg⟩ (T.s_NoText.exm T.x_NoText) (fun a pn => (ss_one (ss_set (i := 3) (Ds.suite (Dk.s D) a pn).nd rfl (by first | exact Or.inl rfl | exact Or.inr rfl) rfl (se_lst (sa_cons (e_xfld (Ds.suite (Dk.s D) a pn) T.x_NoText T.cf_NoText (j := 0) rfl (by decide +kernel) T.no_NoText_part (so_nm (pv 4))) sa_nil) (hn := (aCons_len aNil_len)))))) (.consAs (i := 4) rfl rfl rfl ⟨rfl, by decide, .inl T.x_NoName.mg⟩ (T.s_NoName.exm T.x_NoName) (fun a pn => (ss_one (ss_set (i := 3) (Ds.suite (Dk.s D) a pn).nd rfl (by first | exact Or.inl rfl | exact Or.inr rfl) rfl (se_lst (sa_cons (e_xfld (Ds.suite (Dk.s D) a pn) T.x_NoName T.cf_NoName (j := 0) rfl (by decide +kernel) T.no_NoName_name (so_nm (pv 4))) sa_nil) (hn := (aCons_len aNil_len)))))) (.consAs (i := 4) rfl rfl rfl ⟨rfl, by decide, .inl T.x_NoLimit.mg⟩ (T.s_NoLimit.exm T.x_NoLimit) (fun a pn => (ss_one (ss_set (i := 3) (Ds.suite (Dk.s D) a pn).nd rfl (by first | exact Or.inl rfl | exact Or.inr rfl) rfl (se_lst (sa_cons (e_xfld (Ds.suite (Dk.s D) a pn) T.x_NoLimit T.cf_NoLimit (j := 0) rfl (by decide +kernel) T.no_NoLimit_limit (so_nm (pv 4))) sa_nil) (hn := (aCons_len aNil_len)))))) (.consAs (i := 4) rfl rfl rfl ⟨rfl, by decide, .inl T.x_Full.mg⟩ (T.s_Full.exm T.x_Full) (fun a pn => (ss_one (ss_set (i := 3) (Ds.suite (Dk.s D) a pn).nd rfl (by first | exact Or.inl rfl | exact Or.inr rfl) rfl (se_lst (sa_cons (e_xfld (Ds.suite (Dk.s D) a pn) T.x_Full T.cf_Full (j := 0) rfl (by decide +kernel) T.no_Full_limit (so_nm (pv 4))) sa_nil) (hn := (aCons_len aNil_len)))))) (.cons ⟨rfl, by decide, .inl T.x_SheetError.mg⟩ (T.s_SheetError.exm T.x_SheetError) (fun a pn => (ss_one (ss_set (i := 3) (Ds.suite (Dk.s D) a pn).nd rfl (by first | exact Or.inl rfl | exact Or.inr rfl) rfl (se_lst sa_nil (hn := aNil_len))))) .nil))))))))))))))))
    (ss_one (ss_ret (se_mv (pv 3))))))
theorem sc__law_way_right : FnScope ["_law_way", "_law_one", "_law_other", "_law_marks_here", "_law_under", "_law_e", "_law_due", "_law_place"] ["_law_way", "_law_one", "_law_other"] (defScope (top 31)) := ⟨rfl, rfl, rfl, by decide +kernel, rfl, by decide +kernel, by decide +kernel⟩
theorem ok__law_way_right (T : Txt K mg c) : Def P w K mg base c 8 "_law_way_right" (top 31) ["_law_way", "_law_one", "_law_other"] f__law_way_right := by
  obtain ⟨f, fd, hm, F, hb⟩ := T.d__law_way_right
  refine ⟨f, fd, hm, F, hb, ok_def (N := ["_law_way", "_law_one", "_law_other", "_law_marks_here", "_law_under", "_law_e", "_law_due", "_law_place"]) (sem := b__law_way_right) [true, true, true] T.hK F sc__law_way_right rfl (by decide) ?_⟩
  rintro X W ⟨cdv, A, outer, s, H, E, rfl⟩ D
  exact (ss_cons (ss_par2 D.calm D.nd rfl rfl (by decide) rfl rfl rfl rfl (sa_cons (se_lst sa_nil (hn := aNil_len)) (sa_cons se_bl sa_nil)) (by first | rfl | kernel_rfl))
    (ss_cons (ss_try D (fun W' pn xe D' => (ss_one (ss_do (e_call D' (ok__law_raise_some T) (by first | decide | exact Nat.le_trans (by decide) (Nat.le_add_right _ _)) (by rfl) (sos_cons (so_nm (pv 0)) (sos_cons (so_nm (pv 1)) (sos_cons (so_nm (pv 2)) sos_nil))) rfl)))) (.consAs (i := 5) rfl rfl rfl ⟨rfl, by decide, .inl T.x_SheetError.mg⟩ (T.s_SheetError.exm T.x_SheetError) (fun a pn => (ss_cons (ss_set (i := 3) (Ds.suite (Dk.s D) a pn).nd rfl (by first | exact Or.inl rfl | exact Or.inr rfl) rfl (e_callS D (ok__law_marks T) (by decide) (by rfl) (sos_cons (so_nm (pv 5)) sos_nil) rfl))
    (ss_one (ss_set (i := 4) (Ds.suite (Dk.s D) a pn).nd rfl (by first | exact Or.inl rfl | exact Or.inr rfl) rfl (e_ix1 (ks := [0, 1, 2, 3, 4, 5, 6, 7, 8, 9, 10, 11, 12, 13, 14, 15, 16, 17, 18, 19, 20]) T.xall T.xg T.b_isinstance (by rfl) (ce_ty (by rfl) T.b_ValueError (by decide +kernel)) (T.s_ValueError.kitT (by decide +kernel)) (so_nm (pv 5))))))) .nil))
    (ss_cons (ss_set (i := 6) D.nd rfl (by first | exact Or.inl rfl | exact Or.inr rfl) rfl (se_if (SW.st (sw_or (t_lt (Dk.s D) (so_nm (pv 0)) (so_ev se_int)) (sw_or1 (t_eq (Dk.s D) (so_nm (pv 0)) (so_ev se_int))))) (se_lst sa_nil (hn := aNil_len)) (e_sl (Dk.s D) (so_ev (se_lst (sa_cons (se_nm (pv 1)) (sa_cons (se_nm (pv 2)) sa_nil)) (hn := (aCons_len (aCons_len aNil_len))))) sb_none (sb_some (w_add (Dk.s D) (so_ev se_int) (so_ev (e_int (Dk.s D) T.b_int (by rfl) (so_ev (e_eq (Dk.s D) (so_nm (pv 0)) (so_ev se_int))))))))))
    (ss_cons (ss_if (st_not (st_val (e_call D (ok__law_like T 6) (by first | decide | exact Nat.le_trans (by decide) (Nat.le_add_right _ _)) (by rfl) (sos_cons (so_ev (e_call D (ok__law_fields_seen T) (by first | decide | exact Nat.le_trans (by decide) (Nat.le_add_right _ _)) (by rfl) (sos_cons (so_nm (pv 0)) (sos_cons (so_nm (pv 1)) (sos_cons (so_nm (pv 2)) sos_nil))) rfl)) (sos_cons (so_nm (pv 6)) sos_nil)) rfl))) (ss_one (ss_ret se_bl)) ss_nil)
    (ss_one (ss_ret (se_and (se_nm (pv 4)) (se_one (e_eq (Dk.s D) (so_nm (pv 3)) (so_ev (se_comp (own := [("_law_place", 7)]) D.calm D.nd (si_range1 (by rfl) T.b_range se_int) ⟨blkOk_by (by kernel_rfl), (fun s H C cl fp => (sg_name (D.blk s H _ _ fp).nd rfl (by first | exact Or.inl rfl | exact Or.inr rfl) rfl)), (fun s H C cl fp => pts_yes), (fun s H C cl fp => (e_eq (Dk.s (D.blk s H _ _ fp)) (so_nm (pv 7)) (so_nm (pv 0))))⟩)))))))))))
theorem sc_law : FnScope ["_law_script", "_law_at", "_law_spool_here", "_law_way"] ["_law_script"] (defScope (top 32)) := ⟨rfl, rfl, rfl, by decide +kernel, rfl, by decide +kernel, by decide +kernel⟩
theorem ok_law (T : Txt K mg c) : Def P w K mg base c 9 "law" (top 32) ["_law_script"] f_law := by
  obtain ⟨f, fd, hm, F, hb⟩ := T.d_law
  refine ⟨f, fd, hm, F, hb, ok_def (N := ["_law_script", "_law_at", "_law_spool_here", "_law_way"]) (sem := b_law) [true] T.hK F sc_law rfl (by decide) ?_⟩
  rintro X W ⟨cdv, A, outer, s, H, E, rfl⟩ D
  exact (ss_cons (ss_for D (si_range1 (by rfl) T.b_range (e_max2 D T.b_max (by rfl) (so_ev se_int) (so_ev (e_min2 D T.b_min (by rfl) (so_ev (e_len (Dk.s D) T.b_len (by rfl) (so_nm (pv 0)))) (so_ev se_int))))) (sg_name D.nd rfl (by first | exact Or.inl rfl | exact Or.inr rfl) rfl) (ss_cons (ss_set (i := 2) D.nd rfl (by first | exact Or.inl rfl | exact Or.inr rfl) rfl (e_call D (ok__law_spool T) (by first | decide | exact Nat.le_trans (by decide) (Nat.le_add_right _ _)) (by rfl) (sos_cons (so_nm (pv 0)) (sos_cons (so_nm (pv 1)) sos_nil)) rfl))
    (ss_one (ss_if (st_not (st_val (e_all D T.b_all (by rfl) (so_ev (se_comp (own := [("_law_way", 3)]) D.calm D.nd (si_range1 (by rfl) T.b_range se_int) ⟨blkOk_by (by kernel_rfl), (fun s H C cl fp => (sg_name (D.blk s H _ _ fp).nd rfl (by first | exact Or.inl rfl | exact Or.inr rfl) rfl)), (fun s H C cl fp => pts_yes), (fun s H C cl fp => (e_call (D.blk s H _ _ fp) (ok__law_way_right T) (by first | decide | exact Nat.le_trans (by decide) (Nat.le_add_right _ _)) (by rfl) (sos_cons (so_nm (pv 3)) (sos_cons (so_ev (e_call (D.blk s H _ _ fp) (ok__law_thing T) (by first | decide | exact Nat.le_trans (by decide) (Nat.le_add_right _ _)) (by rfl) (sos_cons (so_nm (pv 2)) sos_nil) rfl)) (sos_cons (so_ev (e_call (D.blk s H _ _ fp) (ok__law_thing T) (by first | decide | exact Nat.le_trans (by decide) (Nat.le_add_right _ _)) (by rfl) (sos_cons (so_nm (pv 2)) sos_nil) rfl)) sos_nil))) rfl))⟩))))) (ss_one (ss_ret se_bl)) ss_nil))))
    (ss_one (ss_ret se_bl)))
end
end Law
set_option autoImplicit false
namespace Tr.Ev
open Tr
open PySem (Str)
variable {ρ ρ' : Env} {e : PExc} {v w : PV}
def frzR : Res PV → Res PV
  | .ok v ρ => .ok (frz v) ρ
  | .er e ρ => .er e ρ
  | .bad => .bad
@[simp] theorem eFrz_eq {f : EF} : eFrz f ρ = frzR (f ρ) := by unfold eFrz frzR; cases f ρ <;> rfl
@[simp] theorem frzR_ok : frzR (.ok v ρ) = .ok (frz v) ρ := (rfl)
@[simp] theorem eDct0_eq : eDct0 ρ = .ok (.dct true [] []) ρ := (rfl)
@[simp] theorem frz_lst {b : Bool} {xs : List PV} : frz (.lst b xs) = .lst false (frzs xs) := by rw [frz]
@[simp] theorem frz_tup {xs : List PV} : frz (.tup xs) = .tup (frzs xs) := by rw [frz]
@[simp] theorem frz_dct {b : Bool} {ks : List Key} {xs : List PV} : frz (.dct b ks xs) = .dct false ks (frzs xs) := by rw [frz]
@[simp] theorem frzs_nil : frzs [] = [] := (rfl)
@[simp] theorem frzs_cons {x : PV} {xs : List PV} : frzs (x :: xs) = frz x :: frzs xs := by rw [frzs]
@[simp] theorem fro_df {ks : List Key} {xs : List PV} : fro (.dct false ks xs) = fros xs := by rw [fro]; rfl
def raR (k : Nat) : Res (List PV) → SR
  | .ok vs ρ => .er ⟨k, (frzs vs).reverse⟩ ρ
  | .er e ρ => .er e ρ
  | .bad => .bad
def ra0 (k : Nat) : Res (List PV) → SR
  | .ok _ ρ => .er ⟨k, []⟩ ρ
  | .er e ρ => .er e ρ
  | .bad => .bad
@[simp] theorem sRaise_eq {k : Nat} {g : AF} : sRaise k g ρ = raR k (g ρ) := by unfold sRaise raR; cases g ρ <;> rfl
@[simp] theorem sRaise0_eq {k : Nat} {g : AF} : sRaise0 k g ρ = ra0 k (g ρ) := by unfold sRaise0 ra0; cases g ρ <;> rfl
@[simp] theorem raR_ok {k : Nat} {vs : List PV} : raR k (.ok vs ρ) = .er ⟨k, (frzs vs).reverse⟩ ρ := (rfl)
@[simp] theorem ra0_ok {k : Nat} {vs : List PV} : ra0 k (.ok vs ρ) = .er ⟨k, []⟩ ρ := (rfl)
@[simp] theorem doR_er {e : PExc} : doR (.er e ρ) = .er e ρ := (rfl)
@[simp] theorem retR_er {e : PExc} : retR (.er e ρ) = .er e ρ := (rfl)
@[simp] theorem setR_er {i : Nat} {e : PExc} : setR i (.er e ρ) = .er e ρ := (rfl)
@[simp] theorem siR_er {a b : SF} {e : PExc} : siR a b (.er e ρ) = .er e ρ := (rfl)
def tryR (n : Nat) (hs : List Hd) : SR → SR
  | .er e ρ => if e.cls < n then runHd hs e ρ else .bad
  | r => r
@[simp] theorem sTry_eq {n : Nat} {b : SF} {hs : List Hd} : sTry n b hs ρ = tryR n hs (b ρ) := by unfold sTry tryR; cases b ρ <;> rfl
@[simp] theorem tryR_nx {n : Nat} {hs : List Hd} : tryR n hs (.nx ρ) = .nx ρ := (rfl)
@[simp] theorem tryR_rt {n : Nat} {hs : List Hd} : tryR n hs (.rt v ρ) = .rt v ρ := (rfl)
@[simp] theorem tryR_er {n : Nat} {hs : List Hd} : tryR n hs (.er e ρ) = if e.cls < n then runHd hs e ρ else .bad := (rfl)
@[simp] theorem runHd_nil : runHd [] e ρ = .er e ρ := (rfl)
@[simp] theorem runHd_none {ks : List Nat} {s : SF} {hs : List Hd} : runHd ((ks, none, s) :: hs) e ρ = if ks.contains e.cls then suiteEnd none (s ρ) else runHd hs e ρ := (rfl)
@[simp] theorem runHd_some {ks : List Nat} {i : Nat} {s : SF} {hs : List Hd} : runHd ((ks, some i, s) :: hs) e ρ = if ks.contains e.cls then suiteEnd (some i) (s (ρ.set i (some (.exc e.cls e.vals)))) else runHd hs e ρ := (rfl)
@[simp] theorem se_nx0 : suiteEnd none (.nx ρ) = .nx ρ := (rfl)
@[simp] theorem se_nx1 {i : Nat} : suiteEnd (some i) (.nx ρ) = .nx (ρ.set i none) := (rfl)
@[simp] theorem se_rt0 : suiteEnd none (.rt v ρ) = .rt v ρ := (rfl)
@[simp] theorem se_rt1 {i : Nat} : suiteEnd (some i) (.rt v ρ) = .rt v (ρ.set i none) := (rfl)
@[simp] theorem xfld_eq {k j k' : Nat} {vs : List PV} : xfld k j (.exc k' vs) = if k' = k then vs[j]? else none := (rfl)
@[simp] theorem isaX_eq {n k : Nat} {ks : List Nat} {vs : List PV} : isaX n ks (.exc k vs) = if k < n then some (ks.contains k) else none := (rfl)
@[simp] theorem finE_eq {fx : List Bool} {as : List PV} : finE fx as e ρ = match outs fx as ρ with | some as' => .er e as' | none => .bad := (rfl)
@[simp] theorem fro_exc {k : Nat} {vs : List PV} : fro (.exc k vs) = fros vs := by rw [fro]
@[simp] theorem frz_exc {k : Nat} {vs : List PV} : frz (.exc k vs) = .exc k (frzs vs) := by rw [frz]
end Tr.Ev
set_option autoImplicit false
namespace Tr.Ev
open Tr
open PySem (Str)
variable {ρ ρ' : Env} {e : PExc} {v w u : PV} {vs ws xs ys : List PV} {tb tc : Tb} {k j i m : Nat} {b : Bool}
theorem fldv_ins : fldv tb (.ins b k vs) = (tb.lookup k).bind fun j => vs[j]? := (rfl)
@[simp] theorem fldv_hd {tb : Tb} : fldv ((k, j) :: tb) (.ins b k vs) = vs[j]? := by rw [fldv_ins, List.lookup_cons, show (k == k) = true by simp]; rfl
@[simp] theorem pj_eq {β : Type} {f : PV → Option β} : pj tb f v = (fldv tb v).bind f := (rfl)
@[simp] theorem pjl_eq {β : Type} {f : PV → PV → Option β} : pjl tb f v w = (fldv tb v).bind fun u => f u w := (rfl)
@[simp] theorem pjr_eq {β : Type} {f : PV → PV → Option β} : pjr tb f v w = (fldv tb w).bind fun u => f v u := (rfl)
@[simp] theorem pj2_eq {β : Type} {f : PV → PV → Option β} : pj2 tb tc f v w = (fldv tb v).bind fun u => (fldv tc w).bind fun z => f u z := (rfl)
def pfS (i : Nat) (tb : Tb) (v : PV) (ρ : Env) : Option PV → SR
  | some (.ins true k vs) => match (tb.lookup k).bind fun j => putFld j v vs with
    | some ws => .nx (ρ.set i (some (.ins true k ws)))
    | none => .bad
  | _ => .bad
def pfR (i : Nat) (tb : Tb) : Res PV → SR
  | .ok v ρ => pfS i tb v ρ (slot ρ i)
  | .er e ρ => .er e ρ
  | .bad => .bad
@[simp] theorem sPutF_eq {f : EF} : sPutF i tb f ρ = pfR i tb (f ρ) := by
  unfold sPutF pfR
  cases f ρ with
  | ok v ρ1 => rw [sOf_ok]; unfold pfS; rfl
  | er => rfl
  | bad => rfl
@[simp] theorem pfR_ok : pfR i tb (.ok v ρ) = pfS i tb v ρ (slot ρ i) := (rfl)
@[simp] theorem pfS_hd : pfS i ((k, j) :: tb) v ρ (some (.ins true k vs)) = match putFld j v vs with | some ws => .nx (ρ.set i (some (.ins true k ws))) | none => .bad := by
  show (match ((k, j) :: tb).lookup k |>.bind fun j => putFld j v vs with | some ws => SR.nx (ρ.set i (some (.ins true k ws))) | none => SR.bad) = _
  rw [List.lookup_cons, show (k == k) = true by simp]; rfl
@[simp] theorem putFld_0n : putFld 0 v [] = some [v] := (rfl)
@[simp] theorem putFld_0 : putFld 0 v (w :: vs) = some (v :: vs) := (rfl)
@[simp] theorem putFld_1n : putFld 1 v [w] = some [w, v] := (rfl)
@[simp] theorem putFld_1 : putFld 1 v (w :: u :: vs) = some (w :: v :: vs) := (rfl)
def mkR1 (k : Nat) (sem : FF) (os : List Opd) (ds : List PV) : Res (List (Option PV)) → Res PV
  | .ok ts ρ => match takeAll os ts ρ with
    | none => .bad
    | some (vs, ρ2) => made (sem (.ins true k [] :: (vs ++ ds))) .ok fun ws => giveAll os vs ws ρ2
  | .er e ρ => .er e ρ
  | .bad => .bad
@[simp] theorem eMake_eq {sem : FF} {os : List Opd} {ds : List PV} : eMake k sem os ds ρ = mkR1 k sem os ds (goAll os ρ) := by
  unfold eMake mkR1; cases goAll os ρ <;> rfl
@[simp] theorem mkR1_ok {sem : FF} {os : List Opd} {ds : List PV} {ts : List (Option PV)} : mkR1 k sem os ds (.ok ts ρ) = match takeAll os ts ρ with
    | none => .bad
    | some (vs, ρ2) => made (sem (.ins true k [] :: (vs ++ ds))) .ok fun ws => giveAll os vs ws ρ2 := (rfl)
@[simp] theorem made_ok {α : Type} {f : PV → Env → Res α} {g : List PV → Env} : made (.ok .non (v :: ws)) f g = f v (g ws) := (rfl)
@[simp] theorem made_er {α : Type} {f : PV → Env → Res α} {g : List PV → Env} : made (.er e (v :: ws)) f g = .er e (g ws) := (rfl)
@[simp] theorem recv_hd {sem : FF} {mt : MT} : recv ((k, sem) :: mt) (some (.ins b k vs)) = some sem := by
  show List.lookup k ((k, sem) :: mt) = _
  rw [List.lookup_cons, show (k == k) = true by simp]
def meT (o : Opd) (os : List Opd) (ds : List PV) (sem : FF) (t : Option PV) : Res (List (Option PV)) → Res PV
  | .ok ts ρ => match takeAll (o :: os) (t :: ts) ρ with
    | none => .bad
    | some (vs, ρ3) => back (sem (vs ++ ds)) .ok fun ws => giveAll (o :: os) vs ws ρ3
  | .er e ρ => .er e ρ
  | .bad => .bad
def meR (o : Opd) (os : List Opd) (ds : List PV) (t : Option PV) (ρ : Env) : Option FF → Res PV
  | none => .bad
  | some sem => meT o os ds sem t (goAll os ρ)
def me1 (mt : MT) (o : Opd) (os : List Opd) (ds : List PV) : Res (Option PV) → Res PV
  | .ok t ρ => meR o os ds t ρ (recv mt (o.get t ρ))
  | _ => .bad
@[simp] theorem eMeth_eq {mt : MT} {o : Opd} {os : List Opd} {ds : List PV} : eMeth mt o os ds ρ = me1 mt o os ds (o.go ρ) := by
  unfold eMeth me1
  cases o.go ρ with
  | ok t ρ1 =>
    rw [Res.bindB_ok]
    show _ = meR o os ds t ρ1 (recv mt (o.get t ρ1))
    cases recv mt (o.get t ρ1) with
    | none => rfl
    | some sem =>
      show (goAll os ρ1).bind _ = meT o os ds sem t (goAll os ρ1)
      cases goAll os ρ1 <;> rfl
  | er => rfl
  | bad => rfl
@[simp] theorem me1_ok {mt : MT} {o : Opd} {os : List Opd} {ds : List PV} {t : Option PV} : me1 mt o os ds (.ok t ρ) = meR o os ds t ρ (recv mt (o.get t ρ)) := (rfl)
@[simp] theorem meR_some {o : Opd} {os : List Opd} {ds : List PV} {sem : FF} {t : Option PV} : meR o os ds t ρ (some sem) = meT o os ds sem t (goAll os ρ) := (rfl)
@[simp] theorem meT_ok {o : Opd} {os : List Opd} {ds : List PV} {sem : FF} {t : Option PV} {ts : List (Option PV)} : meT o os ds sem t (.ok ts ρ) = match takeAll (o :: os) (t :: ts) ρ with
    | none => .bad
    | some (vs, ρ3) => back (sem (vs ++ ds)) .ok fun ws => giveAll (o :: os) vs ws ρ3 := (rfl)
@[simp] theorem dispX_hd {sem : FF} {mt : MT} {as : List PV} : dispX ((k, sem) :: mt) (.ins b k vs :: as) = sem (.ins b k vs :: as) := by
  unfold dispX
  rw [List.head?_cons, recv_hd]
def te2 (tg : List Nat) (mt : MT) (a b : Opd) (ρ2 : Env) : List PV → Res Bool
  | [v, w] => if othOk tg w = true then (match disp mt [v, w] with
    | .ok (.bl r) ws => .ok r (giveAll [a, b] [v, w] ws ρ2)
    | _ => .bad) else .bad
  | _ => .bad
def te1 (tg : List Nat) (mt : MT) (a b : Opd) : Res (List (Option PV)) → Res Bool
  | .ok ts ρ => match takeAll [a, b] ts ρ with
    | some (vs, ρ2) => te2 tg mt a b ρ2 vs
    | none => .bad
  | .er e ρ => .er e ρ
  | .bad => .bad
@[simp] theorem tEqI_eq {tg : List Nat} {mt : MT} {a b : Opd} : tEqI tg mt a b ρ = te1 tg mt a b (goAll [a, b] ρ) := by
  unfold tEqI te1
  cases goAll [a, b] ρ with
  | ok ts ρ1 =>
    rw [Res.bind_ok]
    show _ = (match takeAll [a, b] ts ρ1 with | some (vs, ρ2) => te2 tg mt a b ρ2 vs | none => .bad)
    cases h : takeAll [a, b] ts ρ1 with
    | none => rfl
    | some z =>
      obtain ⟨vs, ρ2⟩ := z
      match vs with
      | [] => rfl
      | [_] => rfl
      | [_, _] => rfl
      | _ :: _ :: _ :: _ => rfl
  | er => rfl
  | bad => rfl
@[simp] theorem te1_ok {tg : List Nat} {mt : MT} {a b : Opd} {ts : List (Option PV)} : te1 tg mt a b (.ok ts ρ) = match takeAll [a, b] ts ρ with
    | some (vs, ρ2) => te2 tg mt a b ρ2 vs
    | none => .bad := (rfl)
@[simp] theorem isaK_ins {tg ks : List Nat} : isaK tg ks (.ins b k vs) = if tg.contains k then some (ks.contains k) else none := (rfl)
@[simp] theorem isaK_lst {tg ks : List Nat} : isaK tg ks (.lst b xs) = some false := (rfl)
@[simp] theorem isaK_tup {tg ks : List Nat} : isaK tg ks (.tup xs) = some false := (rfl)
@[simp] theorem isaK_str {tg ks : List Nat} {x : Str} : isaK tg ks (.str x) = some false := (rfl)
@[simp] theorem oth_lst {tg : List Nat} : othOk tg (.lst b xs) = true := (rfl)
@[simp] theorem oth_tup {tg : List Nat} : othOk tg (.tup xs) = true := (rfl)
@[simp] theorem oth_ins {tg : List Nat} : othOk tg (.ins b k vs) = tg.contains k := (rfl)
@[simp] theorem isA2_eq {T U : Ty} : isA2 T U v = (isA T v).bind fun a => (isA U v).bind fun b => some (a || b) := (rfl)
@[simp] theorem iZip_eq {a b : Opd} : iZip a b ρ = o2 a b zipP (a.go ρ) := op2_eq
def gdR (a b : Opd) (f : PV → PV → Option PV) (t : Option PV) (ρ : Env) : Option PV → Res PV
  | some (.tup _) => o2b a b f t (b.go ρ)
  | _ => .bad
def ixR (a b : Opd) : Res (Option PV) → Res PV
  | .ok t ρ => gdR a b bIdx t ρ (a.get t ρ)
  | .er e ρ => .er e ρ
  | .bad => .bad
@[simp] theorem eIdx_eq {a b : Opd} : eIdx a b ρ = ixR a b (a.go ρ) := by
  unfold eIdx op2g ixR
  cases a.go ρ with
  | ok t ρ1 =>
    rw [Res.bind_ok]
    show _ = gdR a b bIdx t ρ1 (a.get t ρ1)
    cases h : a.get t ρ1 with
    | none => rfl
    | some v =>
      cases v <;> first | rfl | skip
      unfold gdR o2b
      simp only [Option.any_some, isTup, if_true]
      cases b.go ρ1 <;> rfl
  | er => rfl
  | bad => rfl
@[simp] theorem ixR_ok {a b : Opd} {t : Option PV} : ixR a b (.ok t ρ) = gdR a b bIdx t ρ (a.get t ρ) := (rfl)
@[simp] theorem gdR_tup {a b : Opd} {f : PV → PV → Option PV} {t : Option PV} : gdR a b f t ρ (some (.tup xs)) = o2b a b f t (b.go ρ) := (rfl)
@[simp] theorem frz_ins : frz (.ins b k vs) = .ins false k (frzs vs) := by rw [frz]
@[simp] theorem fro_it : fro (.ins true k vs) = false := by rw [fro]; rfl
@[simp] theorem fro_if : fro (.ins false k vs) = fros vs := by rw [fro]; rfl
end Tr.Ev
set_option autoImplicit false
namespace Tr.Ev
open Tr
open PySem (Str)
variable {ρ ρ' : Env} {e : PExc} {v w u : PV} {vs ws xs ys : List PV} {tb tc : Tb} {k k' j i m : Nat} {b : Bool}
theorem look_tl {α : Type} {l : List (Nat × α)} {x : α} (h : (k == k') = false) : ((k', x) :: l).lookup k = l.lookup k := by rw [List.lookup_cons, h]
@[simp] theorem fldv_tl (h : (k == k') = false) : fldv ((k', j) :: tb) (.ins b k vs) = fldv tb (.ins b k vs) := by rw [fldv_ins, fldv_ins, look_tl h]
@[simp] theorem pfS_tl (h : (k == k') = false) : pfS i ((k', j) :: tb) v ρ (some (.ins true k vs)) = pfS i tb v ρ (some (.ins true k vs)) := by
  show (match (((k', j) :: tb).lookup k).bind fun j => putFld j v vs with | some ws => SR.nx (ρ.set i (some (.ins true k ws))) | none => SR.bad) = _
  rw [look_tl h]; rfl
@[simp] theorem recv_tl {sem : FF} {mt : MT} (h : (k == k') = false) : recv ((k', sem) :: mt) (some (.ins b k vs)) = recv mt (some (.ins b k vs)) := by
  show List.lookup k ((k', sem) :: mt) = List.lookup k mt
  exact look_tl h
@[simp] theorem dispX_tl {sem : FF} {mt : MT} {as : List PV} (h : (k == k') = false) : dispX ((k', sem) :: mt) (.ins b k vs :: as) = dispX mt (.ins b k vs :: as) := by
  unfold dispX
  rw [show (PV.ins b k vs :: as).head? = some (.ins b k vs) from rfl, recv_tl h]
@[simp] theorem putFld_2n : putFld 2 v [w, u] = some [w, u, v] := (rfl)
@[simp] theorem hasK_nil {x : Key} : hasK [] x = false := (rfl)
@[simp] theorem fro_dt {ks : List Key} {xs : List PV} : fro (.dct true ks xs) = false := by rw [fro]; rfl
end Tr.Ev
set_option autoImplicit false
namespace Tr.Ev
open Tr
open PySem (Str)
section
variable {α : Type} {enc : α → PV}
theorem at_enc {xs : List α} {i : Int} (h0 : 0 ≤ i) (h1 : i < xs.length) : ∃ x, xs[i.toNat]? = some x ∧ x ∈ xs ∧ atI (xs.map enc) i = some (enc x) := by
  have l : i.toNat < xs.length := by omega
  refine ⟨xs[i.toNat], List.getElem?_eq_getElem l, List.getElem_mem l, ?_⟩
  unfold atI ixN
  rw [if_pos h0, List.length_map, if_pos h1, Option.bind_some, List.getElem?_map, List.getElem?_eq_getElem l]
  rfl
theorem ix_encL (h : ∀ x, fro (enc x) = true) {b : Bool} {xs : List α} {i : Int} (h0 : 0 ≤ i) (h1 : i < xs.length) : ∃ x, xs[i.toNat]? = some x ∧ x ∈ xs ∧ ix (.lst b (xs.map enc)) (.int i) = some (enc x) := by
  obtain ⟨x, e1, e2, e3⟩ := at_enc (enc := enc) h0 h1
  exact ⟨x, e1, e2, by show (atI _ _).bind onlyFro = _; rw [e3, Option.bind_some, onlyFro_t (h x)]⟩
theorem ix_atL (h : ∀ x, fro (enc x) = true) {b : Bool} {xs : List α} {i : Int} {x : α} (h0 : 0 ≤ i) (hx : xs[i.toNat]? = some x) : ix (.lst b (xs.map enc)) (.int i) = some (enc x) := by
  have h1 := (List.getElem?_eq_some_iff.mp hx).1
  obtain ⟨y, e1, _, e3⟩ := ix_encL (b := b) h (xs := xs) h0 (by omega)
  rw [hx] at e1; cases e1; exact e3
theorem ixN_nn {n : Nat} {i : Int} (h0 : 0 ≤ i) (h1 : i < n) : ixN n i = some i.toNat := by unfold ixN; rw [if_pos h0, if_pos h1]
end
theorem strs_all (ws : List Str) : Tr.allS (ws.map PV.str) = some ws := allS_strs ws
theorem frInt : ∀ x, fro (PV.int x) = true := fun _ => rfl
end Tr.Ev
namespace Tr.Ev
open Tr
open PySem (Str)
theorem set_none {ρ : Env} {i : Nat} (h : ρ[i]? = some none) : ρ.set i none = ρ := by
  refine List.ext_getElem? fun j => ?_
  by_cases e : i = j
  · subst e; rw [List.getElem?_set_self (List.getElem?_eq_some_iff.mp h).1, h]
  · rw [List.getElem?_set_ne e]
theorem rest1 {i : Nat} {ρ0 ρ : Env} (h : ρ[i]? = some none) : ∃ q : Option PV, restore [i] ρ0 ρ = ρ.set i q := by
  unfold restore restore
  split
  · split
    · exact ⟨_, rfl⟩
    · exact ⟨none, (set_none h).symm⟩
  · exact ⟨none, (set_none h).symm⟩
theorem rest2 {i j : Nat} {ρ0 ρ : Env} (hij : i ≠ j) (hi : ρ[i]? = some none) (hj : ρ[j]? = some none) : ∃ q r : Option PV, restore [i, j] ρ0 ρ = (ρ.set j r).set i q := by
  obtain ⟨r, hr⟩ := rest1 (ρ0 := ρ0) hj
  have h2 : (ρ.set j r)[i]? = some none := by rw [List.getElem?_set_ne (fun e => hij e.symm)]; exact hi
  unfold restore
  rw [hr]
  split
  · split
    · exact ⟨_, r, rfl⟩
    · exact ⟨none, r, (set_none h2).symm⟩
  · exact ⟨none, r, (set_none h2).symm⟩
theorem c1p {α : Type} {j : Nat} {t : TF} {f : EF} {ρ : Env} (enc : α → PV) (p : α → Bool) (g : α → PV) {l : List α} (hn : ρ[j]? = some none)
    (h : ∀ x ∈ l, t (ρ.set j (some (enc x))) = .ok (p x) (ρ.set j (some (enc x))) ∧ (p x = true → f (ρ.set j (some (enc x))) = .ok (g x) (ρ.set j (some (enc x))))) :
    compL [j] (bN j) t f (l.map enc) ρ = .ok ((l.filter p).map g) ρ := by
  have w : ∀ v, wipeE [j] (ρ.set j v) = ρ := fun v => by
    show (ρ.set j v).set j none = ρ
    rw [List.set_set]; exact set_none hn
  exact comp_pure enc p g fun x m => ⟨_, _, rfl, (h x m).1, fun _ => w _, fun q => ⟨_, (h x m).2 q, w _⟩⟩
theorem c1 {α : Type} {j : Nat} {f : EF} {ρ : Env} (enc : α → PV) (g : α → PV) {l : List α} (hn : ρ[j]? = some none)
    (h : ∀ x ∈ l, f (ρ.set j (some (enc x))) = .ok (g x) (ρ.set j (some (enc x)))) :
    compL [j] (bN j) tYes f (l.map enc) ρ = .ok (l.map g) ρ := by
  have e := c1p enc (fun _ => true) g hn (t := tYes) (f := f) (l := l) fun x m => ⟨rfl, fun _ => h x m⟩
  rwa [List.filter_eq_self.mpr (fun _ _ => rfl)] at e
theorem c2p {α : Type} {i j : Nat} {t : TF} {f : EF} {ρ : Env} (a b : α → PV) (p : α → Bool) (g : α → PV) {l : List α} (hij : i ≠ j) (hi : ρ[i]? = some none) (hj : ρ[j]? = some none)
    (h : ∀ x ∈ l, t ((ρ.set i (some (a x))).set j (some (b x))) = .ok (p x) ((ρ.set i (some (a x))).set j (some (b x))) ∧ (p x = true → f ((ρ.set i (some (a x))).set j (some (b x))) = .ok (g x) ((ρ.set i (some (a x))).set j (some (b x))))) :
    compL [i, j] (bT [bN i, bN j]) t f (l.map fun x => .tup [a x, b x]) ρ = .ok ((l.filter p).map g) ρ := by
  have w : ∀ u v, wipeE [i, j] ((ρ.set i u).set j v) = ρ := fun u v => by
    show (((ρ.set i u).set j v).set j none).set i none = ρ
    rw [List.set_set, List.set_comm _ _ (fun e => hij e.symm), List.set_set, set_none hi, set_none hj]
  exact comp_pure (fun x => .tup [a x, b x]) p g fun x m => ⟨_, _, rfl, (h x m).1, fun _ => w _ _, fun q => ⟨_, (h x m).2 q, w _ _⟩⟩
theorem c2 {α : Type} {i j : Nat} {f : EF} {ρ : Env} (a b : α → PV) (g : α → PV) {l : List α} (hij : i ≠ j) (hi : ρ[i]? = some none) (hj : ρ[j]? = some none)
    (h : ∀ x ∈ l, f ((ρ.set i (some (a x))).set j (some (b x))) = .ok (g x) ((ρ.set i (some (a x))).set j (some (b x)))) :
    compL [i, j] (bT [bN i, bN j]) tYes f (l.map fun x => .tup [a x, b x]) ρ = .ok (l.map g) ρ := by
  have e := c2p a b (fun _ => true) g hij hi hj (t := tYes) (f := f) (l := l) fun x m => ⟨rfl, fun _ => h x m⟩
  rwa [List.filter_eq_self.mpr (fun _ _ => rfl)] at e
theorem w2 {j k : Nat} {w : IF} {b : BF} {t : TF} {f : EF} {ρ ρ1 ρ2 : Env} {xs vs : List PV} (hw : w ρ = .ok xs ρ1) (h : compL [j, k] b t f xs ((ρ1.set k none).set j none) = .ok vs ρ2) (hjk : j ≠ k) (hj : ρ2[j]? = some none) (hk : ρ2[k]? = some none) :
    ∃ q r, eComp [j, k] w b t f ρ = .ok (.lst true vs) ((ρ2.set k r).set j q) := by
  obtain ⟨q, r, hq⟩ := rest2 (i := j) (j := k) (ρ0 := ρ1) (ρ := ρ2) hjk hj hk
  exact ⟨q, r, by rw [← hq]; exact eComp_run hw h⟩
end Tr.Ev
namespace Law
open PySem (Str)
open Tr Tr.Ev
def pot (a b c : Int) : PV := .dct true [.inr "rest", .inr "seed", .inr "turn"] [.int a, .int b, .int c]
structure PotOk (b c : Int) (n : Int) : Prop where
  b0 : 0 ≤ b
  b1 : b < 2 ^ 200
  c0 : 0 ≤ c
  c1 : c + n ≤ 2 ^ 64
theorem log2_lt {i : Int} {k : Nat} (h0 : 0 ≤ i) (h : i < 2 ^ k) (hk : 0 < k) : i.natAbs.log2 < k := by
  obtain ⟨n, rfl⟩ := Int.eq_ofNat_of_zero_le h0
  have h' : n < 2 ^ k := by exact_mod_cast h
  rw [Int.natAbs_natCast]
  by_cases hn : n = 0
  · subst hn; rw [show Nat.log2 0 = 0 by decide]; exact hk
  · exact (Nat.log2_lt hn).mpr h'
theorem mulOk_lt {i j : Int} (h : i.natAbs.log2 + j.natAbs.log2 < 1000000) : mulOk i j = true := by unfold mulOk; exact decide_eq_true (by omega)
theorem powOk3 {i : Int} (h : i.natAbs.log2 < 1000) : powOk i 3 = true := by
  unfold powOk
  rw [Bool.and_eq_true, decide_eq_true_eq, decide_eq_true_eq]
  exact ⟨by decide, by omega⟩
theorem divOk_lt {j : Int} (h0 : 0 < j) (h : j < 2 ^ 200) : divOk j = true := by
  unfold divOk
  rw [Bool.and_eq_true, decide_eq_true_eq, decide_eq_true_eq]
  exact ⟨h0, Nat.lt_trans (log2_lt (by omega) h (by decide)) (by decide)⟩
theorem tn3 : (3 : Int).toNat = 3 := by decide
theorem pow3 {x : Int} (h : powOk x 3 = true) : bPow (.int x) (.int 3) = some (.int (x ^ 3)) := by
  rw [pow_ii h, tn3]
theorem e18 : bPow (.int 10) (.int 18) = some (.int 1000000000000000000) := by
  rw [pow_ii (by decide +kernel)]
  exact congrArg (fun z => some (PV.int z)) (by decide +kernel : (10 : Int) ^ (18 : Int).toNat = 1000000000000000000)
theorem powOk2 {i : Int} (h : i.natAbs.log2 < 1000) : powOk i 2 = true := by
  unfold powOk
  rw [Bool.and_eq_true, decide_eq_true_eq, decide_eq_true_eq]
  exact ⟨by decide, by omega⟩
theorem tn2 : (2 : Int).toNat = 2 := by decide
theorem pow2 {x : Int} (h : powOk x 2 = true) : bPow (.int x) (.int 2) = some (.int (x ^ 2)) := by
  rw [pow_ii h, tn2]
theorem kne1 : ((.inr "rest" : Key) = .inr "seed") = False := by rw [eq_iff_iff]; exact ⟨fun h => absurd h (by decide +kernel), False.elim⟩
theorem kne2 : ((.inr "rest" : Key) = .inr "turn") = False := by rw [eq_iff_iff]; exact ⟨fun h => absurd h (by decide +kernel), False.elim⟩
theorem kne3 : ((.inr "seed" : Key) = .inr "turn") = False := by rw [eq_iff_iff]; exact ⟨fun h => absurd h (by decide +kernel), False.elim⟩
theorem kne1' : ((.inr "seed" : Key) = .inr "rest") = False := by rw [eq_iff_iff]; exact ⟨fun h => absurd h (by decide +kernel), False.elim⟩
theorem kne2' : ((.inr "turn" : Key) = .inr "rest") = False := by rw [eq_iff_iff]; exact ⟨fun h => absurd h (by decide +kernel), False.elim⟩
theorem frints (a b c : Int) : fros [.int a, .int b, .int c] = true := by simp [fros, fro]
@[simp] theorem pot_rest {a b c : Int} : dIx (pot a b c) (.str "rest") = some (.int a) := by
  simp only [dIx, pot, frints, if_true, keyP, Option.bind_some, getD]
@[simp] theorem pot_seed {a b c : Int} : dIx (pot a b c) (.str "seed") = some (.int b) := by
  simp only [dIx, pot, frints, if_true, keyP, Option.bind_some, getD, kne1, if_false]
@[simp] theorem pot_turn {a b c : Int} : dIx (pot a b c) (.str "turn") = some (.int c) := by
  simp only [dIx, pot, frints, if_true, keyP, Option.bind_some, getD, kne2, kne3, if_false]
@[simp] theorem fro_pot {a b c : Int} : fro (pot a b c) = false := fro_dt
@[simp] theorem fz_pot {a b c : Int} : frz (pot a b c) = frz (pot a b c) := rfl
def pdP (i : Nat) (k : Str) (v : PV) (ρ : Env) : Option PV → SR
  | some (.dct true ks xs) => if fros xs = true then if fro v = true then if xs.length < big then .nx (ρ.set i (some (.dct true (putKs ks (.inr k)) (putVs ks xs (.inr k) v)))) else .bad else .bad else .bad
  | _ => .bad
def pdR (i : Nat) (k : Str) : Res PV → SR
  | .ok v ρ => pdP i k v ρ (slot ρ i)
  | .er e ρ => .er e ρ
  | .bad => .bad
@[simp] theorem sPutD_eq {i : Nat} {k : Str} {f : EF} {ρ : Env} : sPutD i (eC (.str k)) f ρ = pdR i k (f ρ) := by
  unfold sPutD pdR
  cases f ρ with
  | er e ρ1 => rfl
  | bad => rfl
  | ok v ρ1 =>
    rw [sOf_ok]
    show _ = pdP i k v ρ1 (slot ρ1 i)
    cases h : slot ρ1 i with
    | none => rfl
    | some w =>
      simp only [eC_eq, sOf_ok, h, keyP]
      cases w with
      | dct b ks xs => cases b <;> rfl
      | _ => rfl
@[simp] theorem pdR_ok {i : Nat} {k : Str} {v : PV} {ρ : Env} : pdR i k (.ok v ρ) = pdP i k v ρ (slot ρ i) := rfl
theorem pdP_pot {i : Nat} {ρ : Env} {k : Str} {x a b c a' b' c' : Int}
    (hk : hasK [.inr "rest", .inr "seed", .inr "turn"] (.inr k) = true) (hv : repD [.inr "rest", .inr "seed", .inr "turn"] [.int a, .int b, .int c] (.inr k) (.int x) = [.int a', .int b', .int c']) :
    pdP i k (.int x) ρ (some (pot a b c)) = .nx (ρ.set i (some (pot a' b' c'))) := by
  simp only [pdP, pot]
  rw [if_pos (frints a b c), if_pos (by simp [fro]), if_pos (by show 3 < big; decide)]
  unfold putKs putVs
  rw [if_pos hk, if_pos hk, hv]
@[simp] theorem put_rest {i : Nat} {ρ : Env} {x a b c : Int} : pdP i "rest" (.int x) ρ (some (pot a b c)) = .nx (ρ.set i (some (pot x b c))) :=
  pdP_pot (by decide +kernel) (by simp only [repD, if_true, kne1', kne2', if_false])
@[simp] theorem put_turn {i : Nat} {ρ : Env} {x a b c : Int} : pdP i "turn" (.int x) ρ (some (pot a b c)) = .nx (ρ.set i (some (pot a b x))) :=
  pdP_pot (by decide +kernel) (by simp only [repD, if_true, kne2, kne3, if_false])
@[simp] theorem intS_i {i : Int} : fIntS (.int i) = some (.int i) := rfl
theorem draw_a {a b c m : Int} (ha : 0 < a) (hm : 0 < m) (hd : divOk m = true) : f__law_pull [pot a b c, .int m] = .ok (.int (a % m)) [pot (a / m) b c, .int m] := by
  simp -implicitDefEqProofs [f__law_pull, b__law_pull, mk_eq, div_ii, mod_ii, hm, ha, hd]
def stir (b c : Int) : Int := (((b + 90001 * c * c) ^ 2) % 170141183460469231731687303715884105727 + 7013 * c) ^ 3 % 162259276829213363391578010288127
theorem draw_b {a b c m : Int} (ha : ¬ 0 < a) (hm : 0 < m) (k1 : mulOk 90001 (c + 1) = true) (k1b : mulOk (90001 * (c + 1)) (c + 1) = true) (k2 : mulOk 7013 (c + 1) = true)
    (k3 : powOk (b + 90001 * (c + 1) * (c + 1)) 2 = true)
    (k4 : powOk ((b + 90001 * (c + 1) * (c + 1)) ^ 2 % 170141183460469231731687303715884105727 + 7013 * (c + 1)) 3 = true) :
    f__law_pull [pot a b c, .int m] = .ok (.int (stir b (c + 1) / 1000003 % m)) [pot a b (c + 1), .int m] := by
  have d7 : divOk 1000003 = true := by decide +kernel
  simp -implicitDefEqProofs [f__law_pull, b__law_pull, mk_eq, mul_ii, div_ii, mod_ii, pow3, pow2, ha, hm, k1, k1b, k2, k3, k4, d7, stir]
end Law
namespace Law
open PySem (Str)
open Tr Tr.Ev
theorem seq_nx {s u : SF} {ρ ρ1 : Env} {r : SR} (h : s ρ = .nx ρ1) (h2 : u ρ1 = r) : sSeq s u ρ = r := by rw [sSeq_eq, h, at_nx, h2]
theorem range_get {n i : Nat} {x : PV} (h : ((List.range n).map fun i => PV.int (i : Nat))[i]? = some x) : i < n ∧ x = .int (i : Nat) := by
  rw [List.getElem?_map] at h
  rcases Nat.lt_or_ge i n with l | l
  · rw [List.getElem?_range l] at h
    cases h
    exact ⟨l, rfl⟩
  · rw [List.getElem?_eq_none (by simpa using l)] at h; cases h
theorem n1 {b c n : Int} (h : PotOk b c (n + 1)) (hn : 0 ≤ n) : (c + 1).natAbs.log2 < 65 := by
  have hc0 := h.c0
  have hc1 := h.c1
  exact log2_lt (by omega) (by omega) (by decide)
theorem n1b {b c n : Int} (h : PotOk b c (n + 1)) (hn : 0 ≤ n) : (90001 * (c + 1)).natAbs.log2 < 90 := by
  have hc0 := h.c0
  have hc1 := h.c1
  exact log2_lt (by omega) (by omega) (by decide)
theorem n2 {b c n : Int} (h : PotOk b c (n + 1)) (hn : 0 ≤ n) : (b + 90001 * (c + 1) * (c + 1)).natAbs.log2 < 260 := by
  have hb1 := h.b1
  have hb0 := h.b0
  have hc0 := h.c0
  have hc1 := h.c1
  have e1 : 0 ≤ (c + 1) * (c + 1) := Int.mul_nonneg (by omega) (by omega)
  have e2 : (c + 1) * (c + 1) ≤ 2 ^ 65 * 2 ^ 65 := Int.mul_le_mul (by omega) (by omega) (by omega) (by decide)
  rw [Int.mul_assoc]
  generalize (c + 1) * (c + 1) = z at e1 e2 ⊢
  exact log2_lt (by omega) (by omega) (by decide)
theorem n3 {x c n : Int} (hc0 : 0 ≤ c) (hc1 : c + (n + 1) ≤ 2 ^ 64) (hn : 0 ≤ n) : (x % 170141183460469231731687303715884105727 + 7013 * (c + 1)).natAbs.log2 < 201 := by
  have m0 : 0 ≤ x % 170141183460469231731687303715884105727 := Int.emod_nonneg _ (by decide)
  have m1 : x % 170141183460469231731687303715884105727 < 170141183460469231731687303715884105727 := Int.emod_lt_of_pos _ (by decide)
  generalize x % 170141183460469231731687303715884105727 = y at m0 m1 ⊢
  exact log2_lt (by omega) (by omega) (by decide)
structure Pot (v : PV) (n : Int) : Prop where
  ok : ∃ a b c, v = pot a b c ∧ PotOk b c n
  n0 : 0 ≤ n
theorem Pot.less {v : PV} {n m : Int} (h : Pot v n) (h0 : 0 ≤ m) (hl : m ≤ n) : Pot v m := by
  obtain ⟨⟨a, b, c, e, q⟩, _⟩ := h
  exact ⟨⟨a, b, c, e, q.b0, q.b1, q.c0, by have := q.c1; omega⟩, h0⟩
theorem Pot.own {v : PV} {n : Int} (h : Pot v n) : fro v = false := by
  obtain ⟨⟨a, b, c, rfl, q⟩, _⟩ := h
  exact fro_pot
theorem draw_ok {v : PV} {m n : Int} (h : Pot v (n + 1)) (hn : 0 ≤ n) (hm : 0 < m) (hm2 : m < 2 ^ 200) : ∃ d v', f__law_pull [v, .int m] = .ok (.int d) [v', .int m] ∧ 0 ≤ d ∧ d < m ∧ Pot v' n := by
  obtain ⟨⟨a, b, c, rfl, h⟩, _⟩ := h
  have q1 : Nat.log2 90001 = 16 := by decide +kernel
  have q2 : Nat.log2 7013 = 12 := by decide +kernel
  have k1 := n1 h hn
  have k1b := n1b h hn
  by_cases ha : 0 < a
  · exact ⟨a % m, _, draw_a ha hm (divOk_lt hm hm2), Int.emod_nonneg _ (by omega), Int.emod_lt_of_pos _ hm, ⟨_, _, _, rfl, h.b0, h.b1, h.c0, by have := h.c1; omega⟩, hn⟩
  · refine ⟨_, _, draw_b ha hm (mulOk_lt ?_) (mulOk_lt ?_) (mulOk_lt ?_) (powOk2 ?_) (powOk3 ?_), Int.emod_nonneg _ (by omega), Int.emod_lt_of_pos _ hm, ⟨_, _, _, rfl, h.b0, h.b1, by have := h.c0; omega, by have := h.c1; omega⟩, hn⟩
    · show Nat.log2 90001 + _ < _; rw [q1]; omega
    · omega
    · show Nat.log2 7013 + _ < _; rw [q2]; omega
    · have := n2 h hn; omega
    · have := n3 (x := (b + 90001 * (c + 1) * (c + 1)) ^ 2) h.c0 h.c1 hn; omega
theorem e41 : bPow (.int 10) (.int 41) = some (.int 100000000000000000000000000000000000000000) := by
  rw [pow_ii (by decide +kernel)]
  exact congrArg (fun z => some (PV.int z)) (by decide +kernel : (10 : Int) ^ (41 : Int).toNat = 100000000000000000000000000000000000000000)
theorem e20 : bPow (.int 10) (.int 20) = some (.int 100000000000000000000) := by
  rw [pow_ii (by decide +kernel)]
  exact congrArg (fun z => some (PV.int z)) (by decide +kernel : (10 : Int) ^ (20 : Int).toNat = 100000000000000000000)
theorem fros_ints (ns : List Int) : fros (ns.map PV.int) = true := by
  induction ns with
  | nil => rfl
  | cons x ns ih => rw [List.map_cons, fros, ih]; rfl
theorem mul_small {i j : Int} (i0 : 0 ≤ i) (i1 : i < 2 ^ 200) (j0 : 0 ≤ j) (j1 : j < 2 ^ 200) : bMul (.int i) (.int j) = some (.int (i * j)) :=
  mul_ii (mulOk_lt (by have := log2_lt i0 i1 (by decide); have := log2_lt j0 j1 (by decide); omega))
theorem pick_int {ns : List Int} {k : Nat} (h : k < ns.length) : ix (.lst false (ns.map .int)) (.int (k : Nat)) = some (.int ns[k]) :=
  ix_atL frInt (by omega) (by rw [Int.toNat_natCast]; exact List.getElem?_eq_getElem h)
theorem mrg_pot {a b c : Int} : mrgD [(.inr "rest", .int a), (.inr "seed", .int b), (.inr "turn", .int c)] [] [] = pot a b c := by
  simp only [mrgD, putKs, putVs, hasK, kne1, kne2, kne3, if_true, if_false, List.nil_append, List.cons_append, pot, Bool.false_eq_true]
theorem disp_pot {f g h : EF} {ρ ρ1 ρ2 ρ3 : Env} {a b c : Int} (e1 : f ρ = .ok (.int a) ρ1) (e2 : g ρ1 = .ok (.int b) ρ2) (e3 : h ρ2 = .ok (.int c) ρ3) :
    eDisp (pCons (eC (.str "rest")) f (pCons (eC (.str "seed")) g (pCons (eC (.str "turn")) h pNil))) ρ = .ok (pot a b c) ρ3 := by
  have fi : ∀ i : Int, fro (.int i) = true := fun i => by simp [fro]
  simp only [eDisp, pCons, pNil, eC_eq, Res.bind_ok, e1, e2, e3, keyP, fi, if_true, List.length_cons, List.length_nil]
  rw [if_pos (by decide), mrg_pot]
theorem spool_ok {ns : List Int} {k : Nat} (hk : k < 100) : ∃ p, f__law_spool [.lst false (ns.map .int), .int (k : Nat)] = .ok p [.lst false (ns.map .int), .int (k : Nat)] ∧ Pot p 100000 := by
  obtain ⟨r, hr⟩ : ∃ r : Int, r = if h : k < ns.length then ns[k] else 0 := ⟨_, rfl⟩
  obtain ⟨a, ha⟩ : ∃ a : Int, a = (if r < 0 then -r else r) := ⟨_, rfl⟩
  obtain ⟨dp, hd⟩ : ∃ dp : Int, dp = (if a - 1000000000000000000 > 0 then a - 1000000000000000000 else 0) := ⟨_, rfl⟩
  have ab : fAbs (.int r) = some (.int a) := by rw [ha]; rfl
  have mx : fMax2 (.int 0) (.int (a - 1000000000000000000)) = some (.int dp) := by rw [hd]; rfl
  have m0 : 0 ≤ r % 100000000000000000000000000000000000000109 := Int.emod_nonneg _ (by decide)
  have m1 : r % 100000000000000000000000000000000000000109 < 100000000000000000000000000000000000000109 := Int.emod_lt_of_pos _ (by decide)
  have md : bMod (.int r) (.int 100000000000000000000000000000000000000109) = some (.int (r % 100000000000000000000000000000000000000109)) := mod_ii (by decide)
  generalize r % 100000000000000000000000000000000000000109 = z at m0 m1 md
  have k1 : bMul (.int z) (.int 64) = some (.int (z * 64)) := mul_small m0 (by omega) (by decide) (by decide)
  refine ⟨pot dp (z * 64 + (k : Nat)) 0, ?_, ⟨_, _, _, rfl, by omega, by omega, by decide, by decide⟩, by decide⟩
  have lt : cLt (.int (k : Nat)) (.int (ns.length : Nat)) = some (decide (k < ns.length)) := by
    show some (decide (((k : Nat) : Int) < (ns.length : Nat))) = _
    congr 1
    rw [Bool.eq_iff_iff]; simp
  have fi := fros_ints ns
  have ad : bAdd (.int 100000000000000000000000000000000000000000) (.int 109) = some (.int 100000000000000000000000000000000000000109) := by rfl
  have sb : bSub (.int a) (.int 1000000000000000000) = some (.int (a - 1000000000000000000)) := rfl
  have it : fInt (.int r) = some (.int r) := rfl
  have s1 : (sSet 2 (eIf (tPV2 cLt (.nm 1) (.ev (eP1 fLen (.nm 0)))) (eP2 ix (.nm 0) (.nm 1)) (eC (.int 0)))) [some (.lst false (ns.map .int)), some (.int (k : Nat)), none] = .nx [some (.lst false (ns.map .int)), some (.int (k : Nat)), some (.int r)] := by
    by_cases c : k < ns.length
    · have pk := pick_int c
      rw [dif_pos c] at hr
      rw [← hr] at pk
      simp -implicitDefEqProofs [c, pk, fi, -ix_l]
    · rw [dif_neg c] at hr
      subst hr
      simp -implicitDefEqProofs [c, fi]
  simp only [f__law_spool, b__law_spool]
  rw [mk_eq rfl]
  simp -implicitDefEqProofs only [List.map_cons, List.map_nil, List.length_cons, List.length_nil, List.cons_append, List.nil_append, List.replicate]
  rw [seq_nx s1 rfl]
  have d := disp_pot (f := (eP2 fMax2 (.ev (eC (.int 0))) (.ev (eP2 bSub (.ev (eP1 fAbs (.nm 2))) (.ev (eP2 bPow (.ev (eC (.int 10))) (.ev (eC (.int 18)))))))))
    (g := (eP2 bAdd (.ev (eP2 bMul (.ev (eP2 bMod (.ev (eP1 fInt (.nm 2))) (.ev (eP2 bAdd (.ev (eP2 bPow (.ev (eC (.int 10))) (.ev (eC (.int 41))))) (.ev (eC (.int 109))))))) (.ev (eC (.int 64))))) (.nm 1)))
    (h := eC (.int 0)) (ρ := [some (.lst false (ns.map .int)), some (.int (k : Nat)), some (.int r)]) (ρ1 := [some (.lst false (ns.map .int)), some (.int (k : Nat)), some (.int r)]) (ρ2 := [some (.lst false (ns.map .int)), some (.int (k : Nat)), some (.int r)])
    (ρ3 := [some (.lst false (ns.map .int)), some (.int (k : Nat)), some (.int r)]) (a := dp) (b := z * 64 + (k : Nat)) (c := 0)
    (by simp -implicitDefEqProofs [ab, mx, e18, sb, -abs_i, -max_ii, -sub_ii]) (by simp -implicitDefEqProofs [it, md, e41, ad, k1]) (by rfl)
  simp -implicitDefEqProofs [d, fi]
end Law
namespace Law
open PySem (Str)
open Tr Tr.Ev
theorem comp_draw {α β : Type} {own : List Nat} {b : BF} {f : EF} (enc : α → PV) (env : PV → Env) (out : β → PV) (Q : β → Prop) {k : Int} (hk : 0 ≤ k) : ∀ {xs : List α} {p : PV} {n : Int}, 0 ≤ n → Pot p (n + k * xs.length) →
    (∀ x ∈ xs, ∀ p m, 0 ≤ m → Pot p (m + k) → ∃ ρ1 y p' ρ2, b (enc x) (env p) = some ρ1 ∧ f ρ1 = .ok (out y) ρ2 ∧ wipeE own ρ2 = env p' ∧ Pot p' m ∧ Q y) → ∃ (ys : List β) (p' : PV), compL own b tYes f (xs.map enc) (env p) = .ok (ys.map out) (env p') ∧ Pot p' n ∧ ys.length = xs.length ∧ ∀ y ∈ ys, Q y
  | [], p, n, h0, hp, _ => ⟨[], p, rfl, by simpa using hp, rfl, fun _ h => by cases h⟩
  | x :: xs, p, n, h0, hp, h => by
    have e0 : n + k * ((x :: xs).length : Nat) = (n + k * (xs.length : Nat)) + k := by
      rw [List.length_cons, Int.natCast_succ, Int.mul_add, Int.mul_one, Int.add_assoc]
    rw [e0] at hp
    have e1 : 0 ≤ k * (xs.length : Nat) := Int.mul_nonneg hk (by omega)
    obtain ⟨ρ1, y, p1, ρ2, e1, e2, e3, hp1, hq⟩ := h x List.mem_cons_self p _ (by omega) hp
    obtain ⟨ys, p2, e4, hp2, l, hqs⟩ := comp_draw enc env out Q hk (xs := xs) h0 hp1 fun z hz => h z (List.mem_cons_of_mem _ hz)
    refine ⟨y :: ys, p2, ?_, hp2, by simp [l], fun z hz => ?_⟩
    · rw [List.map_cons, compL]
      simp only [e1, tYes, Res.bindB_ok, if_true, e2, e3, e4]
      rfl
    · rcases List.mem_cons.mp hz with e | hz
      · rw [e]; exact hq
      · exact hqs z hz
theorem pick_any {xs : List PV} {b : Bool} {d : Int} (hf : fros xs = true) (h0 : 0 ≤ d) (h1 : d < xs.length) : ∃ x ∈ xs, ix (.lst b xs) (.int d) = some x ∧ fro x = true := by
  have l : d.toNat < xs.length := by omega
  have fx : fro xs[d.toNat] = true := List.all_eq_true.mp (by rw [← fros_eq]; exact hf) _ (List.getElem_mem l)
  refine ⟨xs[d.toNat], List.getElem_mem l, ?_, fx⟩
  show (atI _ _).bind onlyFro = _
  unfold atI
  rw [ixN_nn h0 h1, Option.bind_some, List.getElem?_eq_getElem l]
  exact onlyFro_t fx
abbrev ch (c : Nat) : PV := .str ⟨#[c]⟩
def st (ls : List Nat) : Str := ⟨ls.toArray⟩
theorem st_list {ls : List Nat} : (st ls).cps.toList = ls := by unfold st; simp
theorem st_len {ls : List Nat} : (st ls).length = ls.length := by show (st ls).cps.size = _; unfold st; simp
theorem st_of (x : Str) : st x.cps.toList = x := by unfold st; simp
theorem str_ext {x y : Str} (h : x.cps.toList = y.cps.toList) : x = y := by rw [← st_of x, ← st_of y, h]
theorem join0 : ∀ {ls : List Nat}, (Str.join "" (ls.map fun c => ⟨#[c]⟩)).cps.toList = ls
  | [] => by decide +kernel
  | [c] => rfl
  | c :: d :: ls => by
    have ih := join0 (ls := d :: ls)
    show ((⟨#[c]⟩ ++ ("" : Str) ++ Str.join "" ((d :: ls).map fun c => (⟨#[c]⟩ : Str))) : Str).cps.toList = _
    show ((#[c] ++ ("" : Str).cps) ++ (Str.join "" ((d :: ls).map fun c => (⟨#[c]⟩ : Str))).cps).toList = _
    rw [Array.toList_append, Array.toList_append, ih]
    rfl
theorem join_ch {b : Bool} {ls : List Nat} (h : ls.length ≤ 100) : fJoin (.str "") (.lst b (ls.map ch)) = some (.str (st ls)) := by
  have e0 : Str.join "" (ls.map fun c => (⟨#[c]⟩ : Str)) = st ls := str_ext (by rw [join0, st_list])
  have e : (ls.map ch) = (ls.map fun c => (⟨#[c]⟩ : Str)).map PV.str := by rw [List.map_map]; rfl
  rw [e]
  unfold fJoin
  simp only [strs_all, Option.bind_some]
  rw [if_pos, e0]
  have e1 : ((ls.map fun c => (⟨#[c]⟩ : Str)).map (·.length)) = ls.map fun _ => 1 := by rw [List.map_map]; rfl
  rw [e1]
  have e2 : (ls.map fun _ => 1).sum = ls.length := by
    clear h e e1 e0
    induction ls with
    | nil => rfl
    | cons x l ih => rw [List.map_cons, List.sum_cons, ih, List.length_cons]; omega
  have e3 : ("" : Str).length = 0 := by decide +kernel
  rw [e2, e3]
  unfold big; omega
abbrev AB : Str := "abkey 1"
abbrev L7 : List Nat := AB.cps.toList
theorem l7_len : L7.length = 7 := by decide +kernel
theorem ab_ix {d : Int} (h0 : 0 ≤ d) (h1 : d < 7) : ∃ c, ix (.str AB) (.int d) = some (ch c) := by
  have l : d.toNat < L7.length := by rw [l7_len]; omega
  refine ⟨L7[d.toNat], ?_⟩
  show (atI L7 d).map _ = _
  unfold atI
  rw [ixN_nn h0 (by rw [l7_len]; exact h1), Option.bind_some, List.getElem?_eq_getElem l]
  rfl
theorem word_ok {p : PV} {n : Int} (h : Pot p (n + 10)) (hn : 0 ≤ n) : ∃ x p', (sSet 1 (eP1 (fJoin (.str "")) (.ev (eComp [3] (iRange1 (eCall f__law_pull [(.nm 0), (.ev (eC (.int 9)))] [])) (bN 3) tYes (eP2 ix (.ev (eC (.str "abkey 1"))) (.ev (eCall f__law_pull [(.nm 0), (.ev (eC (.int 7)))] []))))))) [some p, none, none, none] =
    .nx [some p', some (.str x), none, none] ∧ x.length ≤ 8 ∧ Pot p' n := by
  obtain ⟨d, p1, e1, d0, d1, h1⟩ := draw_ok (n := n + 9) (m := 9) (h.less (by omega) (by omega)) (by omega) (by decide) (by decide)
  have ow := h.own
  have hr : iRange1 (eCall f__law_pull [(.nm 0), (.ev (eC (.int 9)))] []) [some p, none, none, none] = .ok ((List.range d.toNat).map fun i => .int (i : Nat)) [some p1, none, none, none] := range1_run (n := d) (by simp -implicitDefEqProofs [e1, ow]) (by omega) (by omega)
  obtain ⟨ls, p2, e2, h2, l2, _⟩ := comp_draw (own := [3]) (b := bN 3) (f := eP2 ix (.ev (eC (.str "abkey 1"))) (.ev (eCall f__law_pull [(.nm 0), (.ev (eC (.int 7)))] []))) (fun i : Nat => PV.int (i : Nat)) (fun q => [some q, none, none, none]) ch (fun _ => True) (k := 1) (by decide) (xs := List.range d.toNat) (p := p1) (n := n) hn
    (h1.less (by rw [List.length_range]; omega) (by rw [List.length_range]; omega)) fun x _ q m hm hq => by
      obtain ⟨d2, q1, f1, g0, g1, hq1⟩ := draw_ok (n := m) (m := 7) hq hm (by decide) (by decide)
      obtain ⟨c, hc⟩ := ab_ix g0 g1
      have ow2 := hq.own
      refine ⟨[some q, none, none, some (.int (x : Nat))], c, q1, [some q1, none, none, some (.int (x : Nat))], rfl, ?_, rfl, hq1, trivial⟩
      simp -implicitDefEqProofs [f1, ow2, hc]
  have e3 := eComp_run (own := [3]) hr e2
  rw [List.length_range] at l2
  have j := join_ch (b := true) (ls := ls) (by omega)
  refine ⟨st ls, p2, ?_, by rw [st_len]; omega, h2⟩
  have e4 : eComp [3] (iRange1 (eCall f__law_pull [(.nm 0), (.ev (eC (.int 9)))] [])) (bN 3) tYes (eP2 ix (.ev (eC (.str "abkey 1"))) (.ev (eCall f__law_pull [(.nm 0), (.ev (eC (.int 7)))] []))) [some p, none, none, none] = .ok (.lst true (ls.map ch)) [some p2, none, none, none] := e3
  simp -implicitDefEqProofs [e4, j]
inductive Thing : PV → Prop
  | int (i : Int) (h0 : -10 ≤ i) (h1 : i < 100000000000000000000) : Thing (.int i)
  | word (x : Str) (h : x.length ≤ 8) : Thing (.str x)
  | pair (x : Str) (h : x.length ≤ 8) : Thing (.tup [.str x, .int 1])
  | lst (x : Str) (h : x.length ≤ 8) : Thing (.lst false [.str x, .non])
  | non : Thing .non
  | tr : Thing (.bl true)
theorem Thing.fro {v : PV} (h : Thing v) : Tr.fro v = true := by cases h <;> simp [Tr.fro, fros]
theorem thing_ok {p : PV} {n : Int} (h : Pot p (n + 20)) (hn : 0 ≤ n) : ∃ v p', f__law_thing [p] = .ok v [p'] ∧ Thing v ∧ Pot p' n := by
  obtain ⟨x, p1, e1, lx, h1⟩ := word_ok (n := n + 10) (h.less (by omega) (by omega)) (by omega)
  obtain ⟨d, p2, e2, d0, d1, h2⟩ := draw_ok (n := n + 9) (m := 100000000000000000000) (h1.less (by omega) (by omega)) (by omega) (by decide) (by decide)
  obtain ⟨d', p3, e3, g0, g1, h3⟩ := draw_ok (n := n + 8) (m := 9) (h2.less (by omega) (by omega)) (by omega) (by decide) (by decide)
  obtain ⟨t, p4, e4, t0, t1, h4⟩ := draw_ok (n := n) (m := 7) (h3.less (by omega) (by omega)) (by omega) (by decide) (by decide)
  obtain ⟨z, hz⟩ : ∃ z : Int, z = -1 - d' := ⟨_, rfl⟩
  have hf : fros [.int d, .int z, .str x, .tup [.str x, .int 1], .lst false [.str x, .non], .non, .bl true] = true := by simp [fros, Tr.fro]
  obtain ⟨v, mv, ev, fv⟩ := pick_any (b := true) (d := t) hf t0 (by simpa using t1)
  refine ⟨v, p4, ?_, ?_, h4⟩
  · have o1 := h1.own
    have o2 := h2.own
    have o3 := h3.own
    have sb : bSub (.int (-1)) (.int d') = some (.int z) := by rw [hz]; rfl
    simp only [f__law_thing, b__law_thing]
    rw [mk_eq rfl]
    simp -implicitDefEqProofs only [List.map_cons, List.map_nil, List.length_cons, List.length_nil, List.cons_append, List.nil_append, List.replicate]
    rw [seq_nx e1 rfl, seq_nx (ρ1 := [some p3, some (.str x), some (.lst true [.int d, .int z, .str x, .tup [.str x, .int 1], .lst false [.str x, .non], .non, .bl true]), none]) (by
      simp -implicitDefEqProofs [e20, e2, e3, o1, o2, sb, -sub_ii, frz, frzs]) rfl]
    simp -implicitDefEqProofs [e4, o3, ev, hf, fv, -ix_l]
  · simp only [List.mem_cons, List.not_mem_nil, or_false] at mv
    rcases mv with rfl | rfl | rfl | rfl | rfl | rfl | rfl
    · exact .int _ (by omega) d1
    · exact .int _ (by omega) (by omega)
    · exact .word _ lx
    · exact .pair _ lx
    · exact .lst _ lx
    · exact .non
    · exact .tr
end Law
namespace Law
open PySem (Str)
open Tr Tr.Ev
@[simp] theorem isa_bl_b {b : Bool} : isA .bool (.bl b) = some true := rfl
@[simp] theorem isa_bool_i {i : Int} : isA .bool (.int i) = some false := rfl
@[simp] theorem isa_bool_s {x : Str} : isA .bool (.str x) = some false := rfl
@[simp] theorem isa_bool_n : isA .bool .non = some false := rfl
@[simp] theorem isa_bool_t {xs : List PV} : isA .bool (.tup xs) = some false := rfl
@[simp] theorem isa_bool_l {b : Bool} {xs : List PV} : isA .bool (.lst b xs) = some false := rfl
@[simp] theorem isa_int_i {i : Int} : isA .int (.int i) = some true := rfl
@[simp] theorem isa_int_s {x : Str} : isA .int (.str x) = some false := rfl
@[simp] theorem isa_str_s {x : Str} : isA .str (.str x) = some true := rfl
@[simp] theorem isa_list_i {i : Int} : isA .list (.int i) = some false := rfl
@[simp] theorem isa_list_s {x : Str} : isA .list (.str x) = some false := rfl
@[simp] theorem isa_list_t {xs : List PV} : isA .list (.tup xs) = some false := rfl
@[simp] theorem isa_list_l {b : Bool} {xs : List PV} : isA .list (.lst b xs) = some true := rfl
@[simp] theorem isa_tup_i {i : Int} : isA .tuple (.int i) = some false := rfl
@[simp] theorem isa_tup_s {x : Str} : isA .tuple (.str x) = some false := rfl
@[simp] theorem isa_tup_t {xs : List PV} : isA .tuple (.tup xs) = some true := rfl
@[simp] theorem isa_tup_l {b : Bool} {xs : List PV} : isA .tuple (.lst b xs) = some false := rfl
@[simp] theorem isN_str {x : Str} : cIsN (.str x) = some false := rfl
theorem like_eq {n : Nat} {as : List PV} : f__law_like (n + 1) as = mk [true, true] 4 (b__law_like (f__law_like n)) as := rfl
theorem bb {b : Bool} : cEq (.bl b) (.bl b) = some true := by cases b <;> rfl
theorem nbb {b : Bool} : cNe (.bl b) (.bl b) = some false := by cases b <;> rfl
theorem likeB {n : Nat} {b : Bool} : f__law_like (n + 1) [.bl b, .bl b] = .ok (.bl true) [.bl b, .bl b] := by
  rw [like_eq]
  simp only [b__law_like]
  rw [mk_eq rfl]
  simp -implicitDefEqProofs [bb, eAnd]
theorem likeN {n : Nat} : f__law_like (n + 1) [.non, .non] = .ok (.bl true) [.non, .non] := by
  rw [like_eq]
  simp only [b__law_like]
  rw [mk_eq rfl]
  simp -implicitDefEqProofs [eAnd]
theorem likeI {n : Nat} {i : Int} : f__law_like (n + 1) [.int i, .int i] = .ok (.bl true) [.int i, .int i] := by
  rw [like_eq]
  simp only [b__law_like]
  rw [mk_eq rfl]
  simp -implicitDefEqProofs [eq_ii, eAnd]
theorem likeS {n : Nat} {x : Str} : f__law_like (n + 1) [.str x, .str x] = .ok (.bl true) [.str x, .str x] := by
  have e : cEq (.str x) (.str x) = some true := by rw [eq_ss]; simp
  rw [like_eq]
  simp only [b__law_like]
  rw [mk_eq rfl]
  simp -implicitDefEqProofs [e, eAnd]
theorem all_true : ∀ {xs : List PV}, bls (xs.map fun _ => PV.bl true) = some (xs.map fun _ => true)
  | [] => rfl
  | x :: xs => by rw [List.map_cons, bls, all_true]; rfl
theorem zip_self (xs : List PV) : zipW xs xs = xs.map fun x => PV.tup [x, x] := by
  unfold zipW
  induction xs with
  | nil => rfl
  | cons x xs ih => rw [List.zipWith_cons_cons, ih]; rfl
theorem like_seq {rec : FF} {xs : List PV} (hf : fros xs = true) (hr : ∀ x ∈ xs, rec [x, x] = .ok (.bl true) [x, x]) {v w : PV} (n1 : cIsN v = some false) (n2 : cIsN w = some false) (a1 : isA .bool v = some false) (a2 : isA .bool w = some false)
    {tl : Bool} (b1 : isA .list v = some tl) (b2 : isA .list w = some tl) (c1 : isA .tuple v = some !tl) (c2 : isA .tuple w = some !tl) (l1 : fLen v = some (.int (xs.length : Nat))) (l2 : fLen w = some (.int (xs.length : Nat))) (hz : zipPA (frz v) (frz w) = some (zipW xs xs)) :
    mk [true, true] 4 (b__law_like rec) [v, w] = .ok (.bl true) [frz v, frz w] := by
  have hx : ∀ x ∈ xs, Tr.fro x = true := fun x h => List.all_eq_true.mp (by rw [← fros_eq]; exact hf) x h
  have core := comp_pure (own := [2, 3]) (b := bT [(bN 2), (bN 3)]) (t := tYes) (f := eCall rec [(.nm 2), (.nm 3)] []) (ρ := [some (frz v), some (frz w), none, none]) (fun x => PV.tup [x, x]) (fun _ => true) (fun _ => .bl true) (l := xs) fun x h => by
    have e := hr x h
    have fx := hx x h
    refine ⟨[some (frz v), some (frz w), some x, some x], [some (frz v), some (frz w), some x, some x], ?_, rfl, (fun h => by cases h), fun _ => ⟨[some (frz v), some (frz w), some x, some x], ?_, rfl⟩⟩
    · simp -implicitDefEqProofs
    · simp -implicitDefEqProofs [e, fx]
  have hz2 : iZipA (.ev (eNm 0)) (.ev (eNm 1)) [some v, some w, none, none] = .ok (xs.map fun x => PV.tup [x, x]) [some (frz v), some (frz w), none, none] := by
    rw [← zip_self, iZipA, op2_eq]
    simp -implicitDefEqProofs [hz]
  have e := eComp_run (own := [2, 3]) hz2 core
  have ef : (xs.filter fun _ => true) = xs := by simp
  rw [ef] at e
  have e2 : eComp [2, 3] (iZipA (.ev (eNm 0)) (.ev (eNm 1))) (bT [(bN 2), (bN 3)]) tYes (eCall rec [(.nm 2), (.nm 3)] []) [some v, some w, none, none] = .ok (.lst true (xs.map fun _ => .bl true)) [some (frz v), some (frz w), none, none] := e
  have ea : fAll (.lst true (xs.map fun _ => .bl true)) = some (.bl true) := by
    show (bls _).map _ = _
    rw [all_true]
    simp
  have il : isA2 .list .tuple w = some true := by rw [isA2_eq, b2, c2]; cases tl <;> rfl
  generalize frz v = v' at e2 ⊢
  generalize frz w = w' at e2 ⊢
  simp only [b__law_like]
  rw [mk_eq rfl]
  simp -implicitDefEqProofs [n1, n2, a1, a2, b1, b2, c1, c2, l1, l2, il, nbb, e2, ea, eq_ii, eAnd, -isA2_eq]
def lk : Nat → PV → Bool
  | _, .non => true | _, .int _ => true | _, .str _ => true | _, .bl _ => true
  | d + 1, .tup xs => xs.all (lk d) && decide (xs.length ≤ 100000)
  | d + 1, .lst false xs => xs.all (lk d) && decide (xs.length ≤ 100000)
  | _, _ => false
theorem lk_fro : ∀ {d : Nat} {v : PV}, lk d v = true → Tr.fro v = true := by
  intro d
  induction d with
  | zero => intro v h; cases v <;> first | rfl | (cases h; done) | (rename_i b _; cases b <;> cases h)
  | succ d ih =>
    intro v h
    cases v with
    | tup xs =>
      rw [lk, Bool.and_eq_true] at h
      rw [fro_tup, fros_eq, List.all_eq_true]
      exact fun x hx => ih (List.all_eq_true.mp h.1 x hx)
    | lst b xs =>
      cases b with
      | true => cases h
      | false =>
        rw [lk, Bool.and_eq_true] at h
        rw [fro_lf, fros_eq, List.all_eq_true]
        exact fun x hx => ih (List.all_eq_true.mp h.1 x hx)
    | non => rfl
    | bl b => rfl
    | int i => rfl
    | str x => rfl
    | _ => cases h
theorem len_l {b : Bool} {xs : List PV} : fLen (.lst b xs) = some (.int (xs.length : Nat)) := rfl
theorem len_t {xs : List PV} : fLen (.tup xs) = some (.int (xs.length : Nat)) := rfl
theorem like_lk : ∀ {d : Nat} {v : PV}, lk d v = true → f__law_like (d + 1) [v, v] = .ok (.bl true) [v, v] := by
  intro d
  induction d with
  | zero =>
    intro v h
    cases v with
    | non => exact likeN
    | bl b => exact likeB
    | int i => exact likeI
    | str x => exact likeS
    | lst b xs => cases b <;> cases h
    | _ => cases h
  | succ d ih =>
    intro v h
    have fv := lk_fro h
    cases v with
    | non => exact likeN
    | bl b => exact likeB
    | int i => exact likeI
    | str x => exact likeS
    | tup xs =>
      rw [lk, Bool.and_eq_true] at h
      have hf : fros xs = true := by rwa [fro_tup] at fv
      rw [like_eq, like_seq (tl := false) hf (fun x hx => ih (List.all_eq_true.mp h.1 x hx)) rfl rfl rfl rfl rfl rfl rfl rfl len_t len_t (by rw [frz_of_fro fv, zipPA, if_pos (by rw [fv]; rfl)]), frz_of_fro fv]
    | lst b xs =>
      cases b with
      | true => cases h
      | false =>
        rw [lk, Bool.and_eq_true] at h
        have hf : fros xs = true := by rwa [fro_lf] at fv
        rw [like_eq, like_seq (tl := true) hf (fun x hx => ih (List.all_eq_true.mp h.1 x hx)) rfl rfl rfl rfl rfl rfl rfl rfl len_l len_l (by rw [frz_of_fro fv, zipPA, if_pos (by rw [fv]; rfl)]), frz_of_fro fv]
    | _ => cases h
theorem like_own {d : Nat} {xs : List PV} {a b : Bool} (h : xs.all (lk d) = true) : f__law_like (d + 2) [.lst a xs, .lst b xs] = .ok (.bl true) [.lst false xs, .lst false xs] := by
  have hf : fros xs = true := by rw [fros_eq, List.all_eq_true]; exact fun x hx => lk_fro (List.all_eq_true.mp h x hx)
  have ff : ∀ a : Bool, frz (.lst a xs) = .lst false xs := fun a => by rw [frz, frzs_of_fros hf]
  have fl : Tr.fro (.lst false xs) = true := by rw [fro_lf]; exact hf
  rw [like_eq, like_seq (tl := true) hf (fun x hx => like_lk (List.all_eq_true.mp h x hx)) rfl rfl rfl rfl rfl rfl rfl rfl len_l len_l (by rw [ff, ff, zipPA, if_pos (by rw [fl]; rfl)]), ff, ff]
theorem Thing.lk {v : PV} (h : Thing v) : Law.lk 1 v = true := by cases h <;> rfl
end Law
namespace Law
open PySem (Str)
open Tr Tr.Ev
theorem strN {v : PV} (h : Thing v) : fStrN v = some .non := by
  have : strD v = true := by
    cases h with
    | int i h0 h1 =>
      show decide (i.natAbs.log2 < 1920) = true
      rw [decide_eq_true_eq]
      have : i.natAbs < 2 ^ 100 := by omega
      by_cases z : i.natAbs = 0
      · rw [z]; decide
      · exact Nat.lt_trans ((Nat.log2_lt z).mpr this) (by decide)
    | word x h => rfl
    | pair x h =>
      have w : x.cps.size ≤ 8 := h
      show strP _ = true
      unfold strP
      rw [Bool.and_eq_true, Bool.and_eq_true, Bool.and_eq_true, decide_eq_true_eq]
      refine ⟨⟨⟨rfl, ?_⟩, ?_⟩, ?_⟩
      · rfl
      · have e1 : PySem.PyData.intsShort 13 (.int 1) = true := by decide +kernel
        show (PySem.PyData.intsShort 13 (.str x) && (PySem.PyData.intsShort 13 (.int 1) && true)) = true
        rw [e1]; rfl
      · have l1 : Nat.log2 1 = 0 := by decide +kernel
        simp [toPD, toPDs, PySem.PyData.weight, PySem.PyData.weightAll, l1]; omega
    | lst x h =>
      have w : x.cps.size ≤ 8 := h
      show strP _ = true
      unfold strP
      rw [Bool.and_eq_true, Bool.and_eq_true, Bool.and_eq_true, decide_eq_true_eq]
      refine ⟨⟨⟨rfl, rfl⟩, rfl⟩, ?_⟩
      simp [toPD, toPDs, PySem.PyData.weight, PySem.PyData.weightAll]; omega
    | non => rfl
    | tr => rfl
  unfold fStrN
  rw [if_pos this]
def exOf (k : Nat) (v w : PV) : PExc := if k < 6 then ⟨k + 1, []⟩ else if k = 15 then ⟨16, [w, v]⟩ else if k = 20 then ⟨0, []⟩ else ⟨k + 1, [v]⟩
theorem c21 {k : Nat} (h : k < 21) : k = 0 ∨ k = 1 ∨ k = 2 ∨ k = 3 ∨ k = 4 ∨ k = 5 ∨ k = 6 ∨ k = 7 ∨ k = 8 ∨ k = 9 ∨ k = 10 ∨ k = 11 ∨ k = 12 ∨ k = 13 ∨ k = 14 ∨ k = 15 ∨ k = 16 ∨ k = 17 ∨ k = 18 ∨ k = 19 ∨ k = 20 := by omega
theorem raise_ok {k : Nat} (hk : k < 21) {v w : PV} (hv : Thing v) (hw : Thing w) : f__law_raise_some [.int (k : Nat), v, w] = .er (exOf k v w) [.int (k : Nat), v, w] := by
  have sv := strN hv
  have fv := hv.fro
  have fw := hw.fro
  have zv := frz_of_fro fv
  have zw := frz_of_fro fw
  rcases c21 hk with rfl | rfl | rfl | rfl | rfl | rfl | rfl | rfl | rfl | rfl | rfl | rfl | rfl | rfl | rfl | rfl | rfl | rfl | rfl | rfl | rfl
  all_goals
    simp only [f__law_raise_some, b__law_raise_some, f__law_raise_more, b__law_raise_more]
    rw [mk_eq rfl]
    simp -implicitDefEqProofs [eq_ii, sv, fv, fw, zv, zw, exOf, mk_eq]
def seenOf (k : Nat) (v w : PV) : List PV := if k < 6 then [] else if k = 15 then [v, w] else if k = 20 then [] else [v]
theorem seen_ok {k : Nat} (hk : k < 21) {v w : PV} (hv : Thing v) (hw : Thing w) : f__law_fields_seen [.int (k : Nat), v, w] = .ok (.lst true (seenOf k v w)) [.int (k : Nat), v, w] := by
  have e := raise_ok hk hv hw
  have fv := hv.fro
  have fw := hw.fro
  have zv := frz_of_fro fv
  have zw := frz_of_fro fw
  rcases c21 hk with rfl | rfl | rfl | rfl | rfl | rfl | rfl | rfl | rfl | rfl | rfl | rfl | rfl | rfl | rfl | rfl | rfl | rfl | rfl | rfl | rfl
  all_goals
    simp -implicitDefEqProofs [exOf] at e
    simp only [f__law_fields_seen, b__law_fields_seen]
    rw [mk_eq rfl]
    simp -implicitDefEqProofs [e, fv, fw, zv, zw, seenOf, xfld]
theorem marks_ok {k : Nat} (hk : k < 21) {v w : PV} (hv : Thing v) (hw : Thing w) : f__law_marks [.exc (exOf k v w).cls (exOf k v w).vals] = .ok (.lst true ((List.range 20).map fun i : Nat => PV.bl (decide ((i : Int) = (k : Nat))))) [.exc (exOf k v w).cls (exOf k v w).vals] := by
  have fv := hv.fro
  have fw := hw.fro
  rcases c21 hk with rfl | rfl | rfl | rfl | rfl | rfl | rfl | rfl | rfl | rfl | rfl | rfl | rfl | rfl | rfl | rfl | rfl | rfl | rfl | rfl | rfl
  all_goals
    simp only [f__law_marks, b__law_marks]
    rw [mk_eq rfl]
    simp -implicitDefEqProofs [exOf, fv, fw]
    rfl
end Law
namespace Law
open PySem (Str)
open Tr Tr.Ev
def markL (k : Nat) : List Bool := (List.range 20).map fun i : Nat => decide ((i : Int) = (k : Nat))
theorem exOf_ok {k : Nat} (hk : k < 21) {v w : PV} (hv : Thing v) (hw : Thing w) : (exOf k v w).cls < 21 ∧ ([0, 1, 2, 3, 4, 5, 6, 7, 8, 9, 10, 11, 12, 13, 14, 15, 16, 17, 18, 19, 20] : List Nat).contains (exOf k v w).cls = true ∧ fros (exOf k v w).vals = true := by
  have fv := hv.fro
  have fw := hw.fro
  rcases c21 hk with rfl | rfl | rfl | rfl | rfl | rfl | rfl | rfl | rfl | rfl | rfl | rfl | rfl | rfl | rfl | rfl | rfl | rfl | rfl | rfl | rfl
  all_goals simp [exOf, fros, fv, fw]
theorem way_try {k : Nat} (hk : k < 21) {v w : PV} (hv : Thing v) (hw : Thing w) {a3 a4 : Option PV} :
    (sTry 21 (sDo (eCall f__law_raise_some [(.nm 0), (.nm 1), (.nm 2)] [])) [([0, 1, 2, 3, 4, 5, 6, 7, 8, 9, 10, 11, 12, 13, 14, 15, 16, 17, 18, 19, 20], some 5, (sSeq (sSet 3 (eCall (nE f__law_marks) [(.nm 5)] []))
    (sSet 4 (eT (tPV (isaX 21 [0, 1, 2, 3, 4, 5, 6, 7, 8, 9, 10, 11, 12, 13, 14, 15, 16, 17, 18, 19, 20]) (.nm 5))))))]) [some (.int (k : Nat)), some v, some w, a3, a4, none, none, none] =
    .nx [some (.int (k : Nat)), some v, some w, some (.lst true ((markL k).map .bl)), some (.bl true), none, none, none] := by
  have e := raise_ok hk hv hw
  have m : nE f__law_marks [.exc (exOf k v w).cls (exOf k v w).vals] = .ok (.lst true ((markL k).map .bl)) [.exc (exOf k v w).cls (exOf k v w).vals] := by
    unfold nE
    rw [marks_ok hk hv hw, markL, List.map_map]
    rfl
  obtain ⟨c1, c2, c3⟩ := exOf_ok hk hv hw
  have fv := hv.fro
  have fw := hw.fro
  generalize exOf k v w = ex at e m c1 c2 c3
  obtain ⟨c, xs⟩ := ex
  simp only at c1 c2 c3 m
  have z := frzs_of_fros c3
  simp -implicitDefEqProofs only [sTry_eq, tryR_er, c1, if_true]
  generalize (markL k).map PV.bl = M at m ⊢
  generalize ([0, 1, 2, 3, 4, 5, 6, 7, 8, 9, 10, 11, 12, 13, 14, 15, 16, 17, 18, 19, 20] : List Nat) = L at c2 ⊢
  have c4 : c ∈ L := by simpa using c2
  simp -implicitDefEqProofs [e, fv, fw, c1, c3, c4, z, m]
theorem way_due {k : Nat} (hk : k < 21) {v w : PV} (hv : Thing v) (hw : Thing w) {a3 a4 : Option PV} :
    (sSet 6 (eIf (tOr (tPV2 cLt (.nm 0) (.ev (eC (.int 6)))) (tPV2 cEq (.nm 0) (.ev (eC (.int 20))))) (eLst aNil) (eSl (.ev (eLst (aCons (eNm 1) (aCons (eNm 2) aNil)))) none (some (eP2 bAdd (.ev (eC (.int 1))) (.ev (eP1 fInt (.ev (eT (tPV2 cEq (.nm 0) (.ev (eC (.int 15))))))))))))) [some (.int (k : Nat)), some v, some w, a3, a4, none, none, none] =
    .nx [some (.int (k : Nat)), some v, some w, a3, a4, none, some (.lst true (seenOf k v w)), none] := by
  have fv := hv.fro
  have fw := hw.fro
  have zv := frz_of_fro fv
  have zw := frz_of_fro fw
  have ff : fros [v, w] = true := by rw [fros, fros, fros, fv, fw]; rfl
  have s1 : sl (.lst true [v, w]) none (some 1) = some (.lst true [v]) := by
    show (if fros [v, w] = true then _ else _) = _
    rw [if_pos ff]; rfl
  have s2 : sl (.lst true [v, w]) none (some 2) = some (.lst true [v, w]) := by
    show (if fros [v, w] = true then _ else _) = _
    rw [if_pos ff]; rfl
  have b0 : fInt (.bl false) = some (.int 0) := rfl
  have b1 : fInt (.bl true) = some (.int 1) := rfl
  rcases c21 hk with rfl | rfl | rfl | rfl | rfl | rfl | rfl | rfl | rfl | rfl | rfl | rfl | rfl | rfl | rfl | rfl | rfl | rfl | rfl | rfl | rfl
  all_goals simp -implicitDefEqProofs [eq_ii, fv, fw, zv, zw, s1, s2, b0, b1, seenOf]
theorem eqvs_bl : ∀ bs : List Bool, eqvs (bs.map PV.bl) (bs.map PV.bl) = true
  | [] => rfl
  | b :: bs => by rw [List.map_cons, eqvs, eqvs_bl bs]; cases b <;> rfl
theorem eq_bls {bs : List Bool} {a b : Bool} : cEq (.lst a (bs.map .bl)) (.lst b (bs.map .bl)) = some true := by
  have d : ∀ a : Bool, dat deep (.lst a (bs.map PV.bl)) = true := fun a => by
    show (bs.map PV.bl).all (dat 19) = true
    rw [List.all_eq_true]
    intro x hx
    obtain ⟨y, _, rfl⟩ := List.mem_map.mp hx
    rfl
  unfold cEq
  rw [d a, d b]
  show some (eqvs _ _) = _
  rw [eqvs_bl]
theorem seen_lk {k : Nat} {v w : PV} (hv : Thing v) (hw : Thing w) : (seenOf k v w).all (lk 4) = true := by
  have a := hv.lk
  have up : ∀ {v : PV}, Thing v → lk 4 v = true := fun h => by cases h <;> rfl
  unfold seenOf
  split
  · rfl
  · split
    · simp [up hv, up hw]
    · split
      · rfl
      · simp [up hv]
theorem way_ok {k : Nat} (hk : k < 21) {v w : PV} (hv : Thing v) (hw : Thing w) : f__law_way_right [.int (k : Nat), v, w] = .ok (.bl true) [.int (k : Nat), v, w] := by
  have e1 := way_try hk hv hw (a3 := some (.lst true [])) (a4 := some (.bl false))
  have e2 := way_due hk hv hw (a3 := some (.lst true ((markL k).map .bl))) (a4 := some (.bl true))
  have e3 := seen_ok hk hv hw
  have e4 := like_own (d := 4) (a := true) (b := true) (seen_lk (k := k) hv hw)
  have fv := hv.fro
  have fw := hw.fro
  have zv := frz_of_fro fv
  have zw := frz_of_fro fw
  have fs : fros (seenOf k v w) = true := by rw [fros_eq, List.all_eq_true]; exact fun x hx => lk_fro (List.all_eq_true.mp (seen_lk (k := k) hv hw) x hx)
  generalize hS : seenOf k v w = S at e2 e3 e4 fs
  have hr : iRange1 (eC (.int 20)) [some (.int (k : Nat)), some v, some w, some (.lst true ((markL k).map .bl)), some (.bl true), none, some (.lst false S), none] = .ok ((List.range 20).map fun i : Nat => PV.int (i : Nat)) [some (.int (k : Nat)), some v, some w, some (.lst true ((markL k).map .bl)), some (.bl true), none, some (.lst false S), none] := range1_run (n := 20) (by simp -implicitDefEqProofs) (by decide) (by decide)
  have core := comp_pure (own := [7]) (b := bN 7) (t := tYes) (f := eT (tPV2 cEq (.nm 7) (.nm 0))) (ρ := [some (.int (k : Nat)), some v, some w, some (.lst true ((markL k).map .bl)), some (.bl true), none, some (.lst false S), none]) (fun i : Nat => PV.int (i : Nat)) (fun _ => true) (fun i : Nat => .bl (decide ((i : Int) = (k : Nat)))) (l := List.range 20) fun i _ => by
    refine ⟨[some (.int (k : Nat)), some v, some w, some (.lst true ((markL k).map .bl)), some (.bl true), none, some (.lst false S), some (.int (i : Nat))], [some (.int (k : Nat)), some v, some w, some (.lst true ((markL k).map .bl)), some (.bl true), none, some (.lst false S), some (.int (i : Nat))], rfl, rfl, (fun h => by cases h), fun _ => ⟨[some (.int (k : Nat)), some v, some w, some (.lst true ((markL k).map .bl)), some (.bl true), none, some (.lst false S), some (.int (i : Nat))], ?_, rfl⟩⟩
    generalize (markL k).map PV.bl = M
    simp -implicitDefEqProofs [eq_ii]
  have e5 := eComp_run (own := [7]) hr core
  have ef : ((List.range 20).filter fun _ => true).map (fun i : Nat => PV.bl (decide ((i : Int) = (k : Nat)))) = (markL k).map .bl := by
    rw [List.filter_eq_self.mpr (fun _ _ => rfl), markL, List.map_map]; rfl
  rw [ef] at e5
  have e6 : eComp [7] (iRange1 (eC (.int 20))) (bN 7) tYes (eT (tPV2 cEq (.nm 7) (.nm 0))) [some (.int (k : Nat)), some v, some w, some (.lst true ((markL k).map .bl)), some (.bl true), none, some (.lst false S), none] = .ok (.lst true ((markL k).map .bl)) [some (.int (k : Nat)), some v, some w, some (.lst true ((markL k).map .bl)), some (.bl true), none, some (.lst false S), none] := e5
  have e7 := eq_bls (bs := markL k) (a := true) (b := true)
  clear e5 core hr
  simp only [f__law_way_right, b__law_way_right]
  rw [mk_eq rfl]
  simp -implicitDefEqProofs only [List.map_cons, List.map_nil, List.length_cons, List.length_nil, List.cons_append, List.nil_append, List.replicate]
  rw [seq_nx (ρ1 := [some (.int (k : Nat)), some v, some w, some (.lst true []), some (.bl false), none, none, none]) (by rfl) rfl, seq_nx e1 rfl, seq_nx e2 rfl]
  generalize (markL k).map PV.bl = M at e6 e7 ⊢
  rw [seq_nx (ρ1 := [some (.int (k : Nat)), some v, some w, some (.lst true M), some (.bl true), none, some (.lst false S), none]) (by simp -implicitDefEqProofs [e3, e4, fv, fw, zv, zw, fs]) rfl]
  simp -implicitDefEqProofs [eAnd, e6, e7, fv, fw]
end Law
namespace Law
open PySem (Str)
open Tr Tr.Ev
def CA : EF := eComp [3] (iRange1 (eC (.int 21))) (bN 3) tYes (eCall f__law_way_right [(.nm 3), (.ev (eCall f__law_thing [(.nm 2)] [])), (.ev (eCall f__law_thing [(.nm 2)] []))] [])
theorem ways_ok {S : PV} {at_ : Int} {p : PV} (h : Pot p 100000) : ∃ p', CA [some S, some (.int at_), some p, none] = .ok (.lst true ((List.range 21).map fun _ => .bl true)) [some S, some (.int at_), some p', none] ∧ Pot p' 0 := by
  obtain ⟨ys, p', e, h2, l, _⟩ := comp_draw (own := [3]) (b := bN 3) (f := eCall f__law_way_right [(.nm 3), (.ev (eCall f__law_thing [(.nm 2)] [])), (.ev (eCall f__law_thing [(.nm 2)] []))] []) (fun i : Nat => PV.int (i : Nat)) (fun q => [some S, some (.int at_), some q, none]) (fun _ : Unit => PV.bl true) (fun _ => True) (k := 40) (by decide) (xs := List.range 21) (p := p) (n := 0) (by decide)
    (h.less (by rw [List.length_range]; decide) (by rw [List.length_range]; decide)) fun x hx q m hm hq => by
      have hk := List.mem_range.mp hx
      obtain ⟨v, q1, f1, tv, h1⟩ := thing_ok (n := m + 20) (hq.less (by omega) (by omega)) (by omega)
      obtain ⟨w, q2, f2, tw, h2⟩ := thing_ok (n := m) h1 hm
      have e := way_ok hk tv tw
      have o1 := hq.own
      have o2 := h1.own
      have o3 := h2.own
      have fv := tv.fro
      have fw := tw.fro
      refine ⟨[some S, some (.int at_), some q, some (.int (x : Nat))], (), q2, [some S, some (.int at_), some q2, some (.int (x : Nat))], rfl, ?_, rfl, h2, trivial⟩
      simp -implicitDefEqProofs [f1, f2, e, o1, o2, o3, fv, fw]
  have hr : iRange1 (eC (.int 21)) [some S, some (.int at_), some p, none] = .ok ((List.range 21).map fun i : Nat => PV.int (i : Nat)) [some S, some (.int at_), some p, none] := range1_run (n := 21) (by simp -implicitDefEqProofs) (by decide) (by decide)
  have e2 := eComp_run (own := [3]) hr e
  refine ⟨p', ?_, h2⟩
  unfold CA
  rw [e2]
  have : ys.map (fun _ => PV.bl true) = (List.range 21).map fun _ => PV.bl true := by
    rw [List.map_const', List.map_const', l]
  rw [this]
  rfl
theorem law_true (ns : List Int) (hl : ns.length ≤ 63) (hb : ∀ z ∈ ns, PySem.Builtin.Int.intBits z ≤ 1048576) : ∃ as, f_law [.lst false (ns.map .int)] = .ok (.bl true) as := by
  have fi := fros_ints ns
  obtain ⟨m, hm⟩ : ∃ m : Int, m = (if (if (10 : Int) < ((ns.length : Nat) : Int) then (10 : Int) else ((ns.length : Nat) : Int)) > 1 then (if (10 : Int) < ((ns.length : Nat) : Int) then (10 : Int) else ((ns.length : Nat) : Int)) else 1) := ⟨_, rfl⟩
  have m0 : 0 ≤ m ∧ m ≤ 10 := by rw [hm]; split <;> split <;> omega
  obtain ⟨ρ', e, o1, o2, rfl⟩ := loop_run (b := bN 1) (s := (sSeq (sSet 2 (eCall f__law_spool [(.nm 0), (.nm 1)] []))
    (sIf (tNot (tE (eP1 fAll (.ev (eComp [3] (iRange1 (eC (.int 21))) (bN 3) tYes (eCall f__law_way_right [(.nm 3), (.ev (eCall f__law_thing [(.nm 2)] [])), (.ev (eCall f__law_thing [(.nm 2)] []))] [])))))) (sRet (eC (.bl false))) sNx))) (xs := (List.range m.toNat).map fun i => PV.int (i : Nat)) (ρ := [some (.lst false (ns.map .int)), none, none, none])
    (fun i ρ => ∃ o1 o2 : Option PV, ρ = [some (.lst false (ns.map .int)), o1, o2, none]) ⟨none, none, rfl⟩ fun i x ρ hx hp => by
      obtain ⟨o1, o2, rfl⟩ := hp
      obtain ⟨hi, rfl⟩ := range_get hx
      obtain ⟨q, e1, hq⟩ := spool_ok (ns := ns) (k := i) (by omega)
      obtain ⟨q2, e2, hq2⟩ := ways_ok (S := .lst false (ns.map .int)) (at_ := (i : Nat)) hq
      have ow := hq.own
      have ea : fAll (.lst true ((List.range 21).map fun _ => .bl true)) = some (.bl true) := rfl
      refine ⟨_, rfl, .inl ⟨[some (.lst false (ns.map .int)), some (.int (i : Nat)), some q2, none], ?_, _, _, rfl⟩⟩
      unfold CA at e2
      generalize ((List.range 21).map fun _ => PV.bl true) = L at e2 ea
      generalize (ns.map PV.int) = N at e1 e2 fi ⊢
      simp -implicitDefEqProofs [e1, e2, ea, fi]
  have mn : fMin2 (.int (ns.length : Nat)) (.int 10) = some (.int (if (10 : Int) < ((ns.length : Nat) : Int) then (10 : Int) else ((ns.length : Nat) : Int))) := rfl
  have mx : fMax2 (.int 1) (.int (if (10 : Int) < ((ns.length : Nat) : Int) then (10 : Int) else ((ns.length : Nat) : Int))) = some (.int m) := by rw [hm]; rfl
  have hr : iRange1 (eP2 fMax2 (.ev (eC (.int 1))) (.ev (eP2 fMin2 (.ev (eP1 fLen (.nm 0))) (.ev (eC (.int 10)))))) [some (.lst false (ns.map .int)), none, none, none] = .ok ((List.range m.toNat).map fun i => PV.int (i : Nat)) [some (.lst false (ns.map .int)), none, none, none] :=
    range1_run (n := m) (by
      generalize (if (10 : Int) < ((ns.length : Nat) : Int) then (10 : Int) else ((ns.length : Nat) : Int)) = z at mn mx
      simp -implicitDefEqProofs [mn, mx, -max_ii, -min_ii]) m0.1 (by omega)
  have e2 := sFor_run hr e
  refine ⟨[.lst false (ns.map .int)], ?_⟩
  simp only [f_law, b_law]
  rw [mk_eq rfl]
  simp only [List.map_cons, List.map_nil, List.length_cons, List.length_nil, List.cons_append, List.nil_append, List.replicate]
  rw [sSeq_eq, e2, at_nx]
  simp -implicitDefEqProofs
end Law
namespace Law
open PySem PySem.Spec L2 Tr
set_option maxHeartbeats 4000000 in
theorem all_mk {P : Program} {w : World} {K : PySem.W.Frag} {h : Heap} {mg : Str → Option Value} {fa : Addr} {lv : List (Str × PySem.W.WData)} (KX : K.In h) (GT : h.Ns mainGlobals mg) (LA : PySem.W.LooseAre lv mg h) (hlv : lv = ([] : List (Str × PySem.W.WData))) (hfa : mg "law" = some (.ref fa))
    (b_ValueError : PySem.W.nsIn K mainGlobals "ValueError" = some none)
    (b_abs : PySem.W.nsIn K mainGlobals "abs" = some none)
    (b_all : PySem.W.nsIn K mainGlobals "all" = some none)
    (b_bool : PySem.W.nsIn K mainGlobals "bool" = some none)
    (b_int : PySem.W.nsIn K mainGlobals "int" = some none)
    (b_isinstance : PySem.W.nsIn K mainGlobals "isinstance" = some none)
    (b_len : PySem.W.nsIn K mainGlobals "len" = some none)
    (b_list : PySem.W.nsIn K mainGlobals "list" = some none)
    (b_max : PySem.W.nsIn K mainGlobals "max" = some none)
    (b_min : PySem.W.nsIn K mainGlobals "min" = some none)
    (b_range : PySem.W.nsIn K mainGlobals "range" = some none)
    (b_str : PySem.W.nsIn K mainGlobals "str" = some none)
    (b_tuple : PySem.W.nsIn K mainGlobals "tuple" = some none)
    (b_zip : PySem.W.nsIn K mainGlobals "zip" = some none)
    {f0 : Addr} {oc0 kV0 doc0 pm0 cd0 ct0 : Value} {od0 an0 : Option Addr} {sl0 : Array (Option Value)} (a0 : PySem.W.nsIn K mainGlobals "_law_spool" = some (some (.ref f0))) (l0 : K.lookup f0 = some ⟨oc0, od0, .func (PySem.W.fnOf "_law_spool" "_law_spool" (defArgs (top 23)) (defBody (top 23)) (defScope (top 23)) .none kV0 doc0 pm0 an0 cd0 ct0), sl0⟩) (c0 : PySem.W.codeIn K cd0 "_law_spool" = true) (k0 : PySem.W.keepIn K (.ref f0) = true)
    {f1 : Addr} {oc1 kV1 doc1 pm1 cd1 ct1 : Value} {od1 an1 : Option Addr} {sl1 : Array (Option Value)} (a1 : PySem.W.nsIn K mainGlobals "_law_pull" = some (some (.ref f1))) (l1 : K.lookup f1 = some ⟨oc1, od1, .func (PySem.W.fnOf "_law_pull" "_law_pull" (defArgs (top 24)) (defBody (top 24)) (defScope (top 24)) .none kV1 doc1 pm1 an1 cd1 ct1), sl1⟩) (c1 : PySem.W.codeIn K cd1 "_law_pull" = true) (k1 : PySem.W.keepIn K (.ref f1) = true)
    {f2 : Addr} {oc2 kV2 doc2 pm2 cd2 ct2 : Value} {od2 an2 : Option Addr} {sl2 : Array (Option Value)} (a2 : PySem.W.nsIn K mainGlobals "_law_thing" = some (some (.ref f2))) (l2 : K.lookup f2 = some ⟨oc2, od2, .func (PySem.W.fnOf "_law_thing" "_law_thing" (defArgs (top 30)) (defBody (top 30)) (defScope (top 30)) .none kV2 doc2 pm2 an2 cd2 ct2), sl2⟩) (c2 : PySem.W.codeIn K cd2 "_law_thing" = true) (k2 : PySem.W.keepIn K (.ref f2) = true)
    {f3 : Addr} {oc3 kV3 doc3 pm3 cd3 ct3 : Value} {od3 an3 : Option Addr} {sl3 : Array (Option Value)} (a3 : PySem.W.nsIn K mainGlobals "_law_like" = some (some (.ref f3))) (l3 : K.lookup f3 = some ⟨oc3, od3, .func (PySem.W.fnOf "_law_like" "_law_like" (defArgs (top 25)) (defBody (top 25)) (defScope (top 25)) .none kV3 doc3 pm3 an3 cd3 ct3), sl3⟩) (c3 : PySem.W.codeIn K cd3 "_law_like" = true) (k3 : PySem.W.keepIn K (.ref f3) = true)
    {f4 : Addr} {oc4 kV4 doc4 pm4 cd4 ct4 : Value} {od4 an4 : Option Addr} {sl4 : Array (Option Value)} (a4 : PySem.W.nsIn K mainGlobals "_law_raise_more" = some (some (.ref f4))) (l4 : K.lookup f4 = some ⟨oc4, od4, .func (PySem.W.fnOf "_law_raise_more" "_law_raise_more" (defArgs (top 27)) (defBody (top 27)) (defScope (top 27)) .none kV4 doc4 pm4 an4 cd4 ct4), sl4⟩) (c4 : PySem.W.codeIn K cd4 "_law_raise_more" = true) (k4 : PySem.W.keepIn K (.ref f4) = true)
    {f5 : Addr} {oc5 kV5 doc5 pm5 cd5 ct5 : Value} {od5 an5 : Option Addr} {sl5 : Array (Option Value)} (a5 : PySem.W.nsIn K mainGlobals "_law_raise_some" = some (some (.ref f5))) (l5 : K.lookup f5 = some ⟨oc5, od5, .func (PySem.W.fnOf "_law_raise_some" "_law_raise_some" (defArgs (top 26)) (defBody (top 26)) (defScope (top 26)) .none kV5 doc5 pm5 an5 cd5 ct5), sl5⟩) (c5 : PySem.W.codeIn K cd5 "_law_raise_some" = true) (k5 : PySem.W.keepIn K (.ref f5) = true)
    {f6 : Addr} {oc6 kV6 doc6 pm6 cd6 ct6 : Value} {od6 an6 : Option Addr} {sl6 : Array (Option Value)} (a6 : PySem.W.nsIn K mainGlobals "_law_marks" = some (some (.ref f6))) (l6 : K.lookup f6 = some ⟨oc6, od6, .func (PySem.W.fnOf "_law_marks" "_law_marks" (defArgs (top 28)) (defBody (top 28)) (defScope (top 28)) .none kV6 doc6 pm6 an6 cd6 ct6), sl6⟩) (c6 : PySem.W.codeIn K cd6 "_law_marks" = true) (k6 : PySem.W.keepIn K (.ref f6) = true)
    {f7 : Addr} {oc7 kV7 doc7 pm7 cd7 ct7 : Value} {od7 an7 : Option Addr} {sl7 : Array (Option Value)} (a7 : PySem.W.nsIn K mainGlobals "_law_fields_seen" = some (some (.ref f7))) (l7 : K.lookup f7 = some ⟨oc7, od7, .func (PySem.W.fnOf "_law_fields_seen" "_law_fields_seen" (defArgs (top 29)) (defBody (top 29)) (defScope (top 29)) .none kV7 doc7 pm7 an7 cd7 ct7), sl7⟩) (c7 : PySem.W.codeIn K cd7 "_law_fields_seen" = true) (k7 : PySem.W.keepIn K (.ref f7) = true)
    {f8 : Addr} {oc8 kV8 doc8 pm8 cd8 ct8 : Value} {od8 an8 : Option Addr} {sl8 : Array (Option Value)} (a8 : PySem.W.nsIn K mainGlobals "_law_way_right" = some (some (.ref f8))) (l8 : K.lookup f8 = some ⟨oc8, od8, .func (PySem.W.fnOf "_law_way_right" "_law_way_right" (defArgs (top 31)) (defBody (top 31)) (defScope (top 31)) .none kV8 doc8 pm8 an8 cd8 ct8), sl8⟩) (c8 : PySem.W.codeIn K cd8 "_law_way_right" = true) (k8 : PySem.W.keepIn K (.ref f8) = true)
    {f9 : Addr} {oc9 kV9 doc9 pm9 cd9 ct9 : Value} {od9 an9 : Option Addr} {sl9 : Array (Option Value)} (a9 : PySem.W.nsIn K mainGlobals "law" = some (some (.ref f9))) (l9 : K.lookup f9 = some ⟨oc9, od9, .func (PySem.W.fnOf "law" "law" (defArgs (top 32)) (defBody (top 32)) (defScope (top 32)) .none kV9 doc9 pm9 an9 cd9 ct9), sl9⟩) (c9 : PySem.W.codeIn K cd9 "law" = true) (k9 : PySem.W.keepIn K (.ref f9) = true)
    (xsp : PySem.W.specialIn K (.builtin "object.__class__") "__get__" = some (some (.builtin "getset_descriptor.__get__")))
    (xtk : PySem.W.takesIn K (.builtin "object.__class__") = some true)
    {xa0 : Addr}
    (xn0 : PySem.W.nsIn K mainGlobals "SheetError" = some (some (.ref xa0)))
    (xs0 : PySem.W.subIn K (.ref xa0) (.type "BaseException") = some true)
    (xt0 : PySem.W.typeIn K (.ref xa0) = some (.type "type"))
    (xk0 : PySem.W.keepIn K (.ref xa0) = true)
    (xc0 : PySem.W.isClsIn K xa0 = true)
    (xh0 : PySem.W.hasDictIn K xa0 = true)
    (xg0 : PySem.W.findIn K (.ref xa0) "__getattribute__" = some (some (.builtin "BaseException.__getattribute__")))
    (xr0 : PySem.W.findIn K (.ref xa0) "__getattr__" = some none)
    (xl0 : PySem.W.findIn K (.ref xa0) "__class__" = some (some (.builtin "object.__class__")))
    (xm0 : PySem.W.mroIn K xa0 (.type "object") = some true)
    {xa1 : Addr}
    (xn1 : PySem.W.nsIn K mainGlobals "NoColumns" = some (some (.ref xa1)))
    (xs1 : PySem.W.subIn K (.ref xa1) (.type "BaseException") = some true)
    (xt1 : PySem.W.typeIn K (.ref xa1) = some (.type "type"))
    (xk1 : PySem.W.keepIn K (.ref xa1) = true)
    (xc1 : PySem.W.isClsIn K xa1 = true)
    (xh1 : PySem.W.hasDictIn K xa1 = true)
    (xg1 : PySem.W.findIn K (.ref xa1) "__getattribute__" = some (some (.builtin "BaseException.__getattribute__")))
    (xr1 : PySem.W.findIn K (.ref xa1) "__getattr__" = some none)
    (xl1 : PySem.W.findIn K (.ref xa1) "__class__" = some (some (.builtin "object.__class__")))
    (xm1 : PySem.W.mroIn K xa1 (.type "object") = some true)
    {xa2 : Addr}
    (xn2 : PySem.W.nsIn K mainGlobals "NotNeutral" = some (some (.ref xa2)))
    (xs2 : PySem.W.subIn K (.ref xa2) (.type "BaseException") = some true)
    (xt2 : PySem.W.typeIn K (.ref xa2) = some (.type "type"))
    (xk2 : PySem.W.keepIn K (.ref xa2) = true)
    (xc2 : PySem.W.isClsIn K xa2 = true)
    (xh2 : PySem.W.hasDictIn K xa2 = true)
    (xg2 : PySem.W.findIn K (.ref xa2) "__getattribute__" = some (some (.builtin "BaseException.__getattribute__")))
    (xr2 : PySem.W.findIn K (.ref xa2) "__getattr__" = some none)
    (xl2 : PySem.W.findIn K (.ref xa2) "__class__" = some (some (.builtin "object.__class__")))
    (xm2 : PySem.W.mroIn K xa2 (.type "object") = some true)
    {xa3 : Addr}
    (xn3 : PySem.W.nsIn K mainGlobals "NotKeyed" = some (some (.ref xa3)))
    (xs3 : PySem.W.subIn K (.ref xa3) (.type "BaseException") = some true)
    (xt3 : PySem.W.typeIn K (.ref xa3) = some (.type "type"))
    (xk3 : PySem.W.keepIn K (.ref xa3) = true)
    (xc3 : PySem.W.isClsIn K xa3 = true)
    (xh3 : PySem.W.hasDictIn K xa3 = true)
    (xg3 : PySem.W.findIn K (.ref xa3) "__getattribute__" = some (some (.builtin "BaseException.__getattribute__")))
    (xr3 : PySem.W.findIn K (.ref xa3) "__getattr__" = some none)
    (xl3 : PySem.W.findIn K (.ref xa3) "__class__" = some (some (.builtin "object.__class__")))
    (xm3 : PySem.W.mroIn K xa3 (.type "object") = some true)
    {xa4 : Addr}
    (xn4 : PySem.W.nsIn K mainGlobals "NotSame" = some (some (.ref xa4)))
    (xs4 : PySem.W.subIn K (.ref xa4) (.type "BaseException") = some true)
    (xt4 : PySem.W.typeIn K (.ref xa4) = some (.type "type"))
    (xk4 : PySem.W.keepIn K (.ref xa4) = true)
    (xc4 : PySem.W.isClsIn K xa4 = true)
    (xh4 : PySem.W.hasDictIn K xa4 = true)
    (xg4 : PySem.W.findIn K (.ref xa4) "__getattribute__" = some (some (.builtin "BaseException.__getattribute__")))
    (xr4 : PySem.W.findIn K (.ref xa4) "__getattr__" = some none)
    (xl4 : PySem.W.findIn K (.ref xa4) "__class__" = some (some (.builtin "object.__class__")))
    (xm4 : PySem.W.mroIn K xa4 (.type "object") = some true)
    {xa5 : Addr}
    (xn5 : PySem.W.nsIn K mainGlobals "NoCommand" = some (some (.ref xa5)))
    (xs5 : PySem.W.subIn K (.ref xa5) (.type "BaseException") = some true)
    (xt5 : PySem.W.typeIn K (.ref xa5) = some (.type "type"))
    (xk5 : PySem.W.keepIn K (.ref xa5) = true)
    (xc5 : PySem.W.isClsIn K xa5 = true)
    (xh5 : PySem.W.hasDictIn K xa5 = true)
    (xg5 : PySem.W.findIn K (.ref xa5) "__getattribute__" = some (some (.builtin "BaseException.__getattribute__")))
    (xr5 : PySem.W.findIn K (.ref xa5) "__getattr__" = some none)
    (xl5 : PySem.W.findIn K (.ref xa5) "__class__" = some (some (.builtin "object.__class__")))
    (xm5 : PySem.W.mroIn K xa5 (.type "object") = some true)
    {xa6 : Addr}
    (xn6 : PySem.W.nsIn K mainGlobals "NothingToUndo" = some (some (.ref xa6)))
    (xs6 : PySem.W.subIn K (.ref xa6) (.type "BaseException") = some true)
    (xt6 : PySem.W.typeIn K (.ref xa6) = some (.type "type"))
    (xk6 : PySem.W.keepIn K (.ref xa6) = true)
    (xc6 : PySem.W.isClsIn K xa6 = true)
    (xh6 : PySem.W.hasDictIn K xa6 = true)
    (xg6 : PySem.W.findIn K (.ref xa6) "__getattribute__" = some (some (.builtin "BaseException.__getattribute__")))
    (xr6 : PySem.W.findIn K (.ref xa6) "__getattr__" = some none)
    (xl6 : PySem.W.findIn K (.ref xa6) "__class__" = some (some (.builtin "object.__class__")))
    (xm6 : PySem.W.mroIn K xa6 (.type "object") = some true)
    {xa7 : Addr}
    (xn7 : PySem.W.nsIn K mainGlobals "NoKey" = some (some (.ref xa7)))
    (xs7 : PySem.W.subIn K (.ref xa7) (.type "BaseException") = some true)
    (xt7 : PySem.W.typeIn K (.ref xa7) = some (.type "type"))
    (xk7 : PySem.W.keepIn K (.ref xa7) = true)
    (xc7 : PySem.W.isClsIn K xa7 = true)
    (xh7 : PySem.W.hasDictIn K xa7 = true)
    (xg7 : PySem.W.findIn K (.ref xa7) "__getattribute__" = some (some (.builtin "BaseException.__getattribute__")))
    (xr7 : PySem.W.findIn K (.ref xa7) "__getattr__" = some none)
    (xl7 : PySem.W.findIn K (.ref xa7) "__class__" = some (some (.builtin "object.__class__")))
    (xm7 : PySem.W.mroIn K xa7 (.type "object") = some true)
    {xa8 : Addr}
    (xn8 : PySem.W.nsIn K mainGlobals "NoRow" = some (some (.ref xa8)))
    (xs8 : PySem.W.subIn K (.ref xa8) (.type "BaseException") = some true)
    (xt8 : PySem.W.typeIn K (.ref xa8) = some (.type "type"))
    (xk8 : PySem.W.keepIn K (.ref xa8) = true)
    (xc8 : PySem.W.isClsIn K xa8 = true)
    (xh8 : PySem.W.hasDictIn K xa8 = true)
    (xg8 : PySem.W.findIn K (.ref xa8) "__getattribute__" = some (some (.builtin "BaseException.__getattribute__")))
    (xr8 : PySem.W.findIn K (.ref xa8) "__getattr__" = some none)
    (xl8 : PySem.W.findIn K (.ref xa8) "__class__" = some (some (.builtin "object.__class__")))
    (xm8 : PySem.W.mroIn K xa8 (.type "object") = some true)
    {xa9 : Addr}
    (xn9 : PySem.W.nsIn K mainGlobals "Missing" = some (some (.ref xa9)))
    (xs9 : PySem.W.subIn K (.ref xa9) (.type "BaseException") = some true)
    (xt9 : PySem.W.typeIn K (.ref xa9) = some (.type "type"))
    (xk9 : PySem.W.keepIn K (.ref xa9) = true)
    (xc9 : PySem.W.isClsIn K xa9 = true)
    (xh9 : PySem.W.hasDictIn K xa9 = true)
    (xg9 : PySem.W.findIn K (.ref xa9) "__getattribute__" = some (some (.builtin "BaseException.__getattribute__")))
    (xr9 : PySem.W.findIn K (.ref xa9) "__getattr__" = some none)
    (xl9 : PySem.W.findIn K (.ref xa9) "__class__" = some (some (.builtin "object.__class__")))
    (xm9 : PySem.W.mroIn K xa9 (.type "object") = some true)
    {xa10 : Addr}
    (xn10 : PySem.W.nsIn K mainGlobals "Clash" = some (some (.ref xa10)))
    (xs10 : PySem.W.subIn K (.ref xa10) (.type "BaseException") = some true)
    (xt10 : PySem.W.typeIn K (.ref xa10) = some (.type "type"))
    (xk10 : PySem.W.keepIn K (.ref xa10) = true)
    (xc10 : PySem.W.isClsIn K xa10 = true)
    (xh10 : PySem.W.hasDictIn K xa10 = true)
    (xg10 : PySem.W.findIn K (.ref xa10) "__getattribute__" = some (some (.builtin "BaseException.__getattribute__")))
    (xr10 : PySem.W.findIn K (.ref xa10) "__getattr__" = some none)
    (xl10 : PySem.W.findIn K (.ref xa10) "__class__" = some (some (.builtin "object.__class__")))
    (xm10 : PySem.W.mroIn K xa10 (.type "object") = some true)
    {xa11 : Addr}
    (xn11 : PySem.W.nsIn K mainGlobals "NoSending" = some (some (.ref xa11)))
    (xs11 : PySem.W.subIn K (.ref xa11) (.type "BaseException") = some true)
    (xt11 : PySem.W.typeIn K (.ref xa11) = some (.type "type"))
    (xk11 : PySem.W.keepIn K (.ref xa11) = true)
    (xc11 : PySem.W.isClsIn K xa11 = true)
    (xh11 : PySem.W.hasDictIn K xa11 = true)
    (xg11 : PySem.W.findIn K (.ref xa11) "__getattribute__" = some (some (.builtin "BaseException.__getattribute__")))
    (xr11 : PySem.W.findIn K (.ref xa11) "__getattr__" = some none)
    (xl11 : PySem.W.findIn K (.ref xa11) "__class__" = some (some (.builtin "object.__class__")))
    (xm11 : PySem.W.mroIn K xa11 (.type "object") = some true)
    {xa12 : Addr}
    (xn12 : PySem.W.nsIn K mainGlobals "NoJoining" = some (some (.ref xa12)))
    (xs12 : PySem.W.subIn K (.ref xa12) (.type "BaseException") = some true)
    (xt12 : PySem.W.typeIn K (.ref xa12) = some (.type "type"))
    (xk12 : PySem.W.keepIn K (.ref xa12) = true)
    (xc12 : PySem.W.isClsIn K xa12 = true)
    (xh12 : PySem.W.hasDictIn K xa12 = true)
    (xg12 : PySem.W.findIn K (.ref xa12) "__getattribute__" = some (some (.builtin "BaseException.__getattribute__")))
    (xr12 : PySem.W.findIn K (.ref xa12) "__getattr__" = some none)
    (xl12 : PySem.W.findIn K (.ref xa12) "__class__" = some (some (.builtin "object.__class__")))
    (xm12 : PySem.W.mroIn K xa12 (.type "object") = some true)
    {xa13 : Addr}
    (xn13 : PySem.W.nsIn K mainGlobals "NoMeanwhile" = some (some (.ref xa13)))
    (xs13 : PySem.W.subIn K (.ref xa13) (.type "BaseException") = some true)
    (xt13 : PySem.W.typeIn K (.ref xa13) = some (.type "type"))
    (xk13 : PySem.W.keepIn K (.ref xa13) = true)
    (xc13 : PySem.W.isClsIn K xa13 = true)
    (xh13 : PySem.W.hasDictIn K xa13 = true)
    (xg13 : PySem.W.findIn K (.ref xa13) "__getattribute__" = some (some (.builtin "BaseException.__getattribute__")))
    (xr13 : PySem.W.findIn K (.ref xa13) "__getattr__" = some none)
    (xl13 : PySem.W.findIn K (.ref xa13) "__class__" = some (some (.builtin "object.__class__")))
    (xm13 : PySem.W.mroIn K xa13 (.type "object") = some true)
    {xa14 : Addr}
    (xn14 : PySem.W.nsIn K mainGlobals "NoLine" = some (some (.ref xa14)))
    (xs14 : PySem.W.subIn K (.ref xa14) (.type "BaseException") = some true)
    (xt14 : PySem.W.typeIn K (.ref xa14) = some (.type "type"))
    (xk14 : PySem.W.keepIn K (.ref xa14) = true)
    (xc14 : PySem.W.isClsIn K xa14 = true)
    (xh14 : PySem.W.hasDictIn K xa14 = true)
    (xg14 : PySem.W.findIn K (.ref xa14) "__getattribute__" = some (some (.builtin "BaseException.__getattribute__")))
    (xr14 : PySem.W.findIn K (.ref xa14) "__getattr__" = some none)
    (xl14 : PySem.W.findIn K (.ref xa14) "__class__" = some (some (.builtin "object.__class__")))
    (xm14 : PySem.W.mroIn K xa14 (.type "object") = some true)
    {xa15 : Addr}
    (xn15 : PySem.W.nsIn K mainGlobals "NoCells" = some (some (.ref xa15)))
    (xs15 : PySem.W.subIn K (.ref xa15) (.type "BaseException") = some true)
    (xt15 : PySem.W.typeIn K (.ref xa15) = some (.type "type"))
    (xk15 : PySem.W.keepIn K (.ref xa15) = true)
    (xc15 : PySem.W.isClsIn K xa15 = true)
    (xh15 : PySem.W.hasDictIn K xa15 = true)
    (xg15 : PySem.W.findIn K (.ref xa15) "__getattribute__" = some (some (.builtin "BaseException.__getattribute__")))
    (xr15 : PySem.W.findIn K (.ref xa15) "__getattr__" = some none)
    (xl15 : PySem.W.findIn K (.ref xa15) "__class__" = some (some (.builtin "object.__class__")))
    (xm15 : PySem.W.mroIn K xa15 (.type "object") = some true)
    {xa16 : Addr}
    (xn16 : PySem.W.nsIn K mainGlobals "Refused" = some (some (.ref xa16)))
    (xs16 : PySem.W.subIn K (.ref xa16) (.type "BaseException") = some true)
    (xt16 : PySem.W.typeIn K (.ref xa16) = some (.type "type"))
    (xk16 : PySem.W.keepIn K (.ref xa16) = true)
    (xc16 : PySem.W.isClsIn K xa16 = true)
    (xh16 : PySem.W.hasDictIn K xa16 = true)
    (xg16 : PySem.W.findIn K (.ref xa16) "__getattribute__" = some (some (.builtin "BaseException.__getattribute__")))
    (xr16 : PySem.W.findIn K (.ref xa16) "__getattr__" = some none)
    (xl16 : PySem.W.findIn K (.ref xa16) "__class__" = some (some (.builtin "object.__class__")))
    (xm16 : PySem.W.mroIn K xa16 (.type "object") = some true)
    {xa17 : Addr}
    (xn17 : PySem.W.nsIn K mainGlobals "NoText" = some (some (.ref xa17)))
    (xs17 : PySem.W.subIn K (.ref xa17) (.type "BaseException") = some true)
    (xt17 : PySem.W.typeIn K (.ref xa17) = some (.type "type"))
    (xk17 : PySem.W.keepIn K (.ref xa17) = true)
    (xc17 : PySem.W.isClsIn K xa17 = true)
    (xh17 : PySem.W.hasDictIn K xa17 = true)
    (xg17 : PySem.W.findIn K (.ref xa17) "__getattribute__" = some (some (.builtin "BaseException.__getattribute__")))
    (xr17 : PySem.W.findIn K (.ref xa17) "__getattr__" = some none)
    (xl17 : PySem.W.findIn K (.ref xa17) "__class__" = some (some (.builtin "object.__class__")))
    (xm17 : PySem.W.mroIn K xa17 (.type "object") = some true)
    {xa18 : Addr}
    (xn18 : PySem.W.nsIn K mainGlobals "NoName" = some (some (.ref xa18)))
    (xs18 : PySem.W.subIn K (.ref xa18) (.type "BaseException") = some true)
    (xt18 : PySem.W.typeIn K (.ref xa18) = some (.type "type"))
    (xk18 : PySem.W.keepIn K (.ref xa18) = true)
    (xc18 : PySem.W.isClsIn K xa18 = true)
    (xh18 : PySem.W.hasDictIn K xa18 = true)
    (xg18 : PySem.W.findIn K (.ref xa18) "__getattribute__" = some (some (.builtin "BaseException.__getattribute__")))
    (xr18 : PySem.W.findIn K (.ref xa18) "__getattr__" = some none)
    (xl18 : PySem.W.findIn K (.ref xa18) "__class__" = some (some (.builtin "object.__class__")))
    (xm18 : PySem.W.mroIn K xa18 (.type "object") = some true)
    {xa19 : Addr}
    (xn19 : PySem.W.nsIn K mainGlobals "NoLimit" = some (some (.ref xa19)))
    (xs19 : PySem.W.subIn K (.ref xa19) (.type "BaseException") = some true)
    (xt19 : PySem.W.typeIn K (.ref xa19) = some (.type "type"))
    (xk19 : PySem.W.keepIn K (.ref xa19) = true)
    (xc19 : PySem.W.isClsIn K xa19 = true)
    (xh19 : PySem.W.hasDictIn K xa19 = true)
    (xg19 : PySem.W.findIn K (.ref xa19) "__getattribute__" = some (some (.builtin "BaseException.__getattribute__")))
    (xr19 : PySem.W.findIn K (.ref xa19) "__getattr__" = some none)
    (xl19 : PySem.W.findIn K (.ref xa19) "__class__" = some (some (.builtin "object.__class__")))
    (xm19 : PySem.W.mroIn K xa19 (.type "object") = some true)
    {xa20 : Addr}
    (xn20 : PySem.W.nsIn K mainGlobals "Full" = some (some (.ref xa20)))
    (xs20 : PySem.W.subIn K (.ref xa20) (.type "BaseException") = some true)
    (xt20 : PySem.W.typeIn K (.ref xa20) = some (.type "type"))
    (xk20 : PySem.W.keepIn K (.ref xa20) = true)
    (xc20 : PySem.W.isClsIn K xa20 = true)
    (xh20 : PySem.W.hasDictIn K xa20 = true)
    (xg20 : PySem.W.findIn K (.ref xa20) "__getattribute__" = some (some (.builtin "BaseException.__getattribute__")))
    (xr20 : PySem.W.findIn K (.ref xa20) "__getattr__" = some none)
    (xl20 : PySem.W.findIn K (.ref xa20) "__class__" = some (some (.builtin "object.__class__")))
    (xm20 : PySem.W.mroIn K xa20 (.type "object") = some true)
    (xq0 : PySem.W.excIn K xa0 [.type "ValueError", .type "Exception", .type "BaseException", .type "object"] "ValueError.__new__" = true)
    (xq1 : PySem.W.excIn K xa1 [.type "ValueError", .type "Exception", .type "BaseException", .type "object"] "ValueError.__new__" = true)
    (xq2 : PySem.W.excIn K xa2 [.type "ValueError", .type "Exception", .type "BaseException", .type "object"] "ValueError.__new__" = true)
    (xq3 : PySem.W.excIn K xa3 [.type "ValueError", .type "Exception", .type "BaseException", .type "object"] "ValueError.__new__" = true)
    (xq4 : PySem.W.excIn K xa4 [.type "ValueError", .type "Exception", .type "BaseException", .type "object"] "ValueError.__new__" = true)
    (xq5 : PySem.W.excIn K xa5 [.type "ValueError", .type "Exception", .type "BaseException", .type "object"] "ValueError.__new__" = true)
    (xq6 : PySem.W.excIn K xa6 [.type "ValueError", .type "Exception", .type "BaseException", .type "object"] "ValueError.__new__" = true)
    {nm7 q7 : Str} {N7 : Addr} {bs7 bm7 : List Value} {sn7 : List Str} {sb7 : List Value} {ab7 : Bool} {cl7 : Option Bool} {dd7 : Option Addr} {ma7 mb7 mc7 md7 me7 : Option Value}
    (xo7 : K.lookup xa7 = some (excClassObj nm7 q7 xa7 N7 bs7 bm7 true sn7 sb7 ab7 cl7 dd7 ma7 mb7 mc7 md7 me7 "ValueError.__new__"))
    (xv7 : PySem.HandSPX.refsVE bm7 = true)
    (xd7 : PySem.W.findIn K (.ref xa7) "__setattr__" = some (some (.builtin "object.__setattr__")))
    (xf7_key : PySem.W.findIn K (.ref xa7) "key" = some none)
    {fi7 : Addr} {io7 iv7 ic7 ip7 ie7 it7 : Value} {iq7 iw7 : Option Addr} {iz7 : Array (Option Value)}
    (ya7 : PySem.W.findIn K (.ref xa7) "__init__" = some (some (.ref fi7)))
    (yt7 : PySem.W.typeIn K (.ref fi7) = some (.type "function"))
    (yl7 : K.lookup fi7 = some ⟨io7, iq7, .func (PySem.W.fnOf "__init__" "NoKey.__init__" (defArgs (inClass (top 8) 0)) (defBody (inClass (top 8) 0)) (defScope (inClass (top 8) 0)) .none iv7 ic7 ip7 iw7 ie7 it7), iz7⟩)
    (yc7 : PySem.W.codeIn K ie7 "NoKey.__init__" = true)
    (yk7 : PySem.W.keepIn K (.ref fi7) = true)
    {nm8 q8 : Str} {N8 : Addr} {bs8 bm8 : List Value} {sn8 : List Str} {sb8 : List Value} {ab8 : Bool} {cl8 : Option Bool} {dd8 : Option Addr} {ma8 mb8 mc8 md8 me8 : Option Value}
    (xo8 : K.lookup xa8 = some (excClassObj nm8 q8 xa8 N8 bs8 bm8 true sn8 sb8 ab8 cl8 dd8 ma8 mb8 mc8 md8 me8 "ValueError.__new__"))
    (xv8 : PySem.HandSPX.refsVE bm8 = true)
    (xd8 : PySem.W.findIn K (.ref xa8) "__setattr__" = some (some (.builtin "object.__setattr__")))
    (xf8_key : PySem.W.findIn K (.ref xa8) "key" = some none)
    {fi8 : Addr} {io8 iv8 ic8 ip8 ie8 it8 : Value} {iq8 iw8 : Option Addr} {iz8 : Array (Option Value)}
    (ya8 : PySem.W.findIn K (.ref xa8) "__init__" = some (some (.ref fi8)))
    (yt8 : PySem.W.typeIn K (.ref fi8) = some (.type "function"))
    (yl8 : K.lookup fi8 = some ⟨io8, iq8, .func (PySem.W.fnOf "__init__" "NoRow.__init__" (defArgs (inClass (top 9) 0)) (defBody (inClass (top 9) 0)) (defScope (inClass (top 9) 0)) .none iv8 ic8 ip8 iw8 ie8 it8), iz8⟩)
    (yc8 : PySem.W.codeIn K ie8 "NoRow.__init__" = true)
    (yk8 : PySem.W.keepIn K (.ref fi8) = true)
    {nm9 q9 : Str} {N9 : Addr} {bs9 bm9 : List Value} {sn9 : List Str} {sb9 : List Value} {ab9 : Bool} {cl9 : Option Bool} {dd9 : Option Addr} {ma9 mb9 mc9 md9 me9 : Option Value}
    (xo9 : K.lookup xa9 = some (excClassObj nm9 q9 xa9 N9 bs9 bm9 true sn9 sb9 ab9 cl9 dd9 ma9 mb9 mc9 md9 me9 "ValueError.__new__"))
    (xv9 : PySem.HandSPX.refsVE bm9 = true)
    (xd9 : PySem.W.findIn K (.ref xa9) "__setattr__" = some (some (.builtin "object.__setattr__")))
    (xf9_key : PySem.W.findIn K (.ref xa9) "key" = some none)
    {fi9 : Addr} {io9 iv9 ic9 ip9 ie9 it9 : Value} {iq9 iw9 : Option Addr} {iz9 : Array (Option Value)}
    (ya9 : PySem.W.findIn K (.ref xa9) "__init__" = some (some (.ref fi9)))
    (yt9 : PySem.W.typeIn K (.ref fi9) = some (.type "function"))
    (yl9 : K.lookup fi9 = some ⟨io9, iq9, .func (PySem.W.fnOf "__init__" "Missing.__init__" (defArgs (inClass (top 10) 0)) (defBody (inClass (top 10) 0)) (defScope (inClass (top 10) 0)) .none iv9 ic9 ip9 iw9 ie9 it9), iz9⟩)
    (yc9 : PySem.W.codeIn K ie9 "Missing.__init__" = true)
    (yk9 : PySem.W.keepIn K (.ref fi9) = true)
    {nm10 q10 : Str} {N10 : Addr} {bs10 bm10 : List Value} {sn10 : List Str} {sb10 : List Value} {ab10 : Bool} {cl10 : Option Bool} {dd10 : Option Addr} {ma10 mb10 mc10 md10 me10 : Option Value}
    (xo10 : K.lookup xa10 = some (excClassObj nm10 q10 xa10 N10 bs10 bm10 true sn10 sb10 ab10 cl10 dd10 ma10 mb10 mc10 md10 me10 "ValueError.__new__"))
    (xv10 : PySem.HandSPX.refsVE bm10 = true)
    (xd10 : PySem.W.findIn K (.ref xa10) "__setattr__" = some (some (.builtin "object.__setattr__")))
    (xf10_key : PySem.W.findIn K (.ref xa10) "key" = some none)
    {fi10 : Addr} {io10 iv10 ic10 ip10 ie10 it10 : Value} {iq10 iw10 : Option Addr} {iz10 : Array (Option Value)}
    (ya10 : PySem.W.findIn K (.ref xa10) "__init__" = some (some (.ref fi10)))
    (yt10 : PySem.W.typeIn K (.ref fi10) = some (.type "function"))
    (yl10 : K.lookup fi10 = some ⟨io10, iq10, .func (PySem.W.fnOf "__init__" "Clash.__init__" (defArgs (inClass (top 11) 0)) (defBody (inClass (top 11) 0)) (defScope (inClass (top 11) 0)) .none iv10 ic10 ip10 iw10 ie10 it10), iz10⟩)
    (yc10 : PySem.W.codeIn K ie10 "Clash.__init__" = true)
    (yk10 : PySem.W.keepIn K (.ref fi10) = true)
    {nm11 q11 : Str} {N11 : Addr} {bs11 bm11 : List Value} {sn11 : List Str} {sb11 : List Value} {ab11 : Bool} {cl11 : Option Bool} {dd11 : Option Addr} {ma11 mb11 mc11 md11 me11 : Option Value}
    (xo11 : K.lookup xa11 = some (excClassObj nm11 q11 xa11 N11 bs11 bm11 true sn11 sb11 ab11 cl11 dd11 ma11 mb11 mc11 md11 me11 "ValueError.__new__"))
    (xv11 : PySem.HandSPX.refsVE bm11 = true)
    (xd11 : PySem.W.findIn K (.ref xa11) "__setattr__" = some (some (.builtin "object.__setattr__")))
    (xf11_part : PySem.W.findIn K (.ref xa11) "part" = some none)
    {fi11 : Addr} {io11 iv11 ic11 ip11 ie11 it11 : Value} {iq11 iw11 : Option Addr} {iz11 : Array (Option Value)}
    (ya11 : PySem.W.findIn K (.ref xa11) "__init__" = some (some (.ref fi11)))
    (yt11 : PySem.W.typeIn K (.ref fi11) = some (.type "function"))
    (yl11 : K.lookup fi11 = some ⟨io11, iq11, .func (PySem.W.fnOf "__init__" "NoSending.__init__" (defArgs (inClass (top 12) 0)) (defBody (inClass (top 12) 0)) (defScope (inClass (top 12) 0)) .none iv11 ic11 ip11 iw11 ie11 it11), iz11⟩)
    (yc11 : PySem.W.codeIn K ie11 "NoSending.__init__" = true)
    (yk11 : PySem.W.keepIn K (.ref fi11) = true)
    {nm12 q12 : Str} {N12 : Addr} {bs12 bm12 : List Value} {sn12 : List Str} {sb12 : List Value} {ab12 : Bool} {cl12 : Option Bool} {dd12 : Option Addr} {ma12 mb12 mc12 md12 me12 : Option Value}
    (xo12 : K.lookup xa12 = some (excClassObj nm12 q12 xa12 N12 bs12 bm12 true sn12 sb12 ab12 cl12 dd12 ma12 mb12 mc12 md12 me12 "ValueError.__new__"))
    (xv12 : PySem.HandSPX.refsVE bm12 = true)
    (xd12 : PySem.W.findIn K (.ref xa12) "__setattr__" = some (some (.builtin "object.__setattr__")))
    (xf12_part : PySem.W.findIn K (.ref xa12) "part" = some none)
    {fi12 : Addr} {io12 iv12 ic12 ip12 ie12 it12 : Value} {iq12 iw12 : Option Addr} {iz12 : Array (Option Value)}
    (ya12 : PySem.W.findIn K (.ref xa12) "__init__" = some (some (.ref fi12)))
    (yt12 : PySem.W.typeIn K (.ref fi12) = some (.type "function"))
    (yl12 : K.lookup fi12 = some ⟨io12, iq12, .func (PySem.W.fnOf "__init__" "NoJoining.__init__" (defArgs (inClass (top 13) 0)) (defBody (inClass (top 13) 0)) (defScope (inClass (top 13) 0)) .none iv12 ic12 ip12 iw12 ie12 it12), iz12⟩)
    (yc12 : PySem.W.codeIn K ie12 "NoJoining.__init__" = true)
    (yk12 : PySem.W.keepIn K (.ref fi12) = true)
    {nm13 q13 : Str} {N13 : Addr} {bs13 bm13 : List Value} {sn13 : List Str} {sb13 : List Value} {ab13 : Bool} {cl13 : Option Bool} {dd13 : Option Addr} {ma13 mb13 mc13 md13 me13 : Option Value}
    (xo13 : K.lookup xa13 = some (excClassObj nm13 q13 xa13 N13 bs13 bm13 true sn13 sb13 ab13 cl13 dd13 ma13 mb13 mc13 md13 me13 "ValueError.__new__"))
    (xv13 : PySem.HandSPX.refsVE bm13 = true)
    (xd13 : PySem.W.findIn K (.ref xa13) "__setattr__" = some (some (.builtin "object.__setattr__")))
    (xf13_part : PySem.W.findIn K (.ref xa13) "part" = some none)
    {fi13 : Addr} {io13 iv13 ic13 ip13 ie13 it13 : Value} {iq13 iw13 : Option Addr} {iz13 : Array (Option Value)}
    (ya13 : PySem.W.findIn K (.ref xa13) "__init__" = some (some (.ref fi13)))
    (yt13 : PySem.W.typeIn K (.ref fi13) = some (.type "function"))
    (yl13 : K.lookup fi13 = some ⟨io13, iq13, .func (PySem.W.fnOf "__init__" "NoMeanwhile.__init__" (defArgs (inClass (top 14) 0)) (defBody (inClass (top 14) 0)) (defScope (inClass (top 14) 0)) .none iv13 ic13 ip13 iw13 ie13 it13), iz13⟩)
    (yc13 : PySem.W.codeIn K ie13 "NoMeanwhile.__init__" = true)
    (yk13 : PySem.W.keepIn K (.ref fi13) = true)
    {nm14 q14 : Str} {N14 : Addr} {bs14 bm14 : List Value} {sn14 : List Str} {sb14 : List Value} {ab14 : Bool} {cl14 : Option Bool} {dd14 : Option Addr} {ma14 mb14 mc14 md14 me14 : Option Value}
    (xo14 : K.lookup xa14 = some (excClassObj nm14 q14 xa14 N14 bs14 bm14 true sn14 sb14 ab14 cl14 dd14 ma14 mb14 mc14 md14 me14 "ValueError.__new__"))
    (xv14 : PySem.HandSPX.refsVE bm14 = true)
    (xd14 : PySem.W.findIn K (.ref xa14) "__setattr__" = some (some (.builtin "object.__setattr__")))
    (xf14_index : PySem.W.findIn K (.ref xa14) "index" = some none)
    {fi14 : Addr} {io14 iv14 ic14 ip14 ie14 it14 : Value} {iq14 iw14 : Option Addr} {iz14 : Array (Option Value)}
    (ya14 : PySem.W.findIn K (.ref xa14) "__init__" = some (some (.ref fi14)))
    (yt14 : PySem.W.typeIn K (.ref fi14) = some (.type "function"))
    (yl14 : K.lookup fi14 = some ⟨io14, iq14, .func (PySem.W.fnOf "__init__" "NoLine.__init__" (defArgs (inClass (top 15) 0)) (defBody (inClass (top 15) 0)) (defScope (inClass (top 15) 0)) .none iv14 ic14 ip14 iw14 ie14 it14), iz14⟩)
    (yc14 : PySem.W.codeIn K ie14 "NoLine.__init__" = true)
    (yk14 : PySem.W.keepIn K (.ref fi14) = true)
    {nm15 q15 : Str} {N15 : Addr} {bs15 bm15 : List Value} {sn15 : List Str} {sb15 : List Value} {ab15 : Bool} {cl15 : Option Bool} {dd15 : Option Addr} {ma15 mb15 mc15 md15 me15 : Option Value}
    (xo15 : K.lookup xa15 = some (excClassObj nm15 q15 xa15 N15 bs15 bm15 true sn15 sb15 ab15 cl15 dd15 ma15 mb15 mc15 md15 me15 "ValueError.__new__"))
    (xv15 : PySem.HandSPX.refsVE bm15 = true)
    (xd15 : PySem.W.findIn K (.ref xa15) "__setattr__" = some (some (.builtin "object.__setattr__")))
    (xf15_index : PySem.W.findIn K (.ref xa15) "index" = some none)
    {fi15 : Addr} {io15 iv15 ic15 ip15 ie15 it15 : Value} {iq15 iw15 : Option Addr} {iz15 : Array (Option Value)}
    (ya15 : PySem.W.findIn K (.ref xa15) "__init__" = some (some (.ref fi15)))
    (yt15 : PySem.W.typeIn K (.ref fi15) = some (.type "function"))
    (yl15 : K.lookup fi15 = some ⟨io15, iq15, .func (PySem.W.fnOf "__init__" "NoCells.__init__" (defArgs (inClass (top 16) 0)) (defBody (inClass (top 16) 0)) (defScope (inClass (top 16) 0)) .none iv15 ic15 ip15 iw15 ie15 it15), iz15⟩)
    (yc15 : PySem.W.codeIn K ie15 "NoCells.__init__" = true)
    (yk15 : PySem.W.keepIn K (.ref fi15) = true)
    {nm16 q16 : Str} {N16 : Addr} {bs16 bm16 : List Value} {sn16 : List Str} {sb16 : List Value} {ab16 : Bool} {cl16 : Option Bool} {dd16 : Option Addr} {ma16 mb16 mc16 md16 me16 : Option Value}
    (xo16 : K.lookup xa16 = some (excClassObj nm16 q16 xa16 N16 bs16 bm16 true sn16 sb16 ab16 cl16 dd16 ma16 mb16 mc16 md16 me16 "ValueError.__new__"))
    (xv16 : PySem.HandSPX.refsVE bm16 = true)
    (xd16 : PySem.W.findIn K (.ref xa16) "__setattr__" = some (some (.builtin "object.__setattr__")))
    (xf16_index : PySem.W.findIn K (.ref xa16) "index" = some none)
    (xf16_why : PySem.W.findIn K (.ref xa16) "why" = some none)
    {fi16 : Addr} {io16 iv16 ic16 ip16 ie16 it16 : Value} {iq16 iw16 : Option Addr} {iz16 : Array (Option Value)}
    (ya16 : PySem.W.findIn K (.ref xa16) "__init__" = some (some (.ref fi16)))
    (yt16 : PySem.W.typeIn K (.ref fi16) = some (.type "function"))
    (yl16 : K.lookup fi16 = some ⟨io16, iq16, .func (PySem.W.fnOf "__init__" "Refused.__init__" (defArgs (inClass (top 17) 0)) (defBody (inClass (top 17) 0)) (defScope (inClass (top 17) 0)) .none iv16 ic16 ip16 iw16 ie16 it16), iz16⟩)
    (yc16 : PySem.W.codeIn K ie16 "Refused.__init__" = true)
    (yk16 : PySem.W.keepIn K (.ref fi16) = true)
    {nm17 q17 : Str} {N17 : Addr} {bs17 bm17 : List Value} {sn17 : List Str} {sb17 : List Value} {ab17 : Bool} {cl17 : Option Bool} {dd17 : Option Addr} {ma17 mb17 mc17 md17 me17 : Option Value}
    (xo17 : K.lookup xa17 = some (excClassObj nm17 q17 xa17 N17 bs17 bm17 true sn17 sb17 ab17 cl17 dd17 ma17 mb17 mc17 md17 me17 "ValueError.__new__"))
    (xv17 : PySem.HandSPX.refsVE bm17 = true)
    (xd17 : PySem.W.findIn K (.ref xa17) "__setattr__" = some (some (.builtin "object.__setattr__")))
    (xf17_part : PySem.W.findIn K (.ref xa17) "part" = some none)
    {fi17 : Addr} {io17 iv17 ic17 ip17 ie17 it17 : Value} {iq17 iw17 : Option Addr} {iz17 : Array (Option Value)}
    (ya17 : PySem.W.findIn K (.ref xa17) "__init__" = some (some (.ref fi17)))
    (yt17 : PySem.W.typeIn K (.ref fi17) = some (.type "function"))
    (yl17 : K.lookup fi17 = some ⟨io17, iq17, .func (PySem.W.fnOf "__init__" "NoText.__init__" (defArgs (inClass (top 18) 0)) (defBody (inClass (top 18) 0)) (defScope (inClass (top 18) 0)) .none iv17 ic17 ip17 iw17 ie17 it17), iz17⟩)
    (yc17 : PySem.W.codeIn K ie17 "NoText.__init__" = true)
    (yk17 : PySem.W.keepIn K (.ref fi17) = true)
    {nm18 q18 : Str} {N18 : Addr} {bs18 bm18 : List Value} {sn18 : List Str} {sb18 : List Value} {ab18 : Bool} {cl18 : Option Bool} {dd18 : Option Addr} {ma18 mb18 mc18 md18 me18 : Option Value}
    (xo18 : K.lookup xa18 = some (excClassObj nm18 q18 xa18 N18 bs18 bm18 true sn18 sb18 ab18 cl18 dd18 ma18 mb18 mc18 md18 me18 "ValueError.__new__"))
    (xv18 : PySem.HandSPX.refsVE bm18 = true)
    (xd18 : PySem.W.findIn K (.ref xa18) "__setattr__" = some (some (.builtin "object.__setattr__")))
    (xf18_name : PySem.W.findIn K (.ref xa18) "name" = some none)
    {fi18 : Addr} {io18 iv18 ic18 ip18 ie18 it18 : Value} {iq18 iw18 : Option Addr} {iz18 : Array (Option Value)}
    (ya18 : PySem.W.findIn K (.ref xa18) "__init__" = some (some (.ref fi18)))
    (yt18 : PySem.W.typeIn K (.ref fi18) = some (.type "function"))
    (yl18 : K.lookup fi18 = some ⟨io18, iq18, .func (PySem.W.fnOf "__init__" "NoName.__init__" (defArgs (inClass (top 19) 0)) (defBody (inClass (top 19) 0)) (defScope (inClass (top 19) 0)) .none iv18 ic18 ip18 iw18 ie18 it18), iz18⟩)
    (yc18 : PySem.W.codeIn K ie18 "NoName.__init__" = true)
    (yk18 : PySem.W.keepIn K (.ref fi18) = true)
    {nm19 q19 : Str} {N19 : Addr} {bs19 bm19 : List Value} {sn19 : List Str} {sb19 : List Value} {ab19 : Bool} {cl19 : Option Bool} {dd19 : Option Addr} {ma19 mb19 mc19 md19 me19 : Option Value}
    (xo19 : K.lookup xa19 = some (excClassObj nm19 q19 xa19 N19 bs19 bm19 true sn19 sb19 ab19 cl19 dd19 ma19 mb19 mc19 md19 me19 "ValueError.__new__"))
    (xv19 : PySem.HandSPX.refsVE bm19 = true)
    (xd19 : PySem.W.findIn K (.ref xa19) "__setattr__" = some (some (.builtin "object.__setattr__")))
    (xf19_limit : PySem.W.findIn K (.ref xa19) "limit" = some none)
    {fi19 : Addr} {io19 iv19 ic19 ip19 ie19 it19 : Value} {iq19 iw19 : Option Addr} {iz19 : Array (Option Value)}
    (ya19 : PySem.W.findIn K (.ref xa19) "__init__" = some (some (.ref fi19)))
    (yt19 : PySem.W.typeIn K (.ref fi19) = some (.type "function"))
    (yl19 : K.lookup fi19 = some ⟨io19, iq19, .func (PySem.W.fnOf "__init__" "NoLimit.__init__" (defArgs (inClass (top 20) 0)) (defBody (inClass (top 20) 0)) (defScope (inClass (top 20) 0)) .none iv19 ic19 ip19 iw19 ie19 it19), iz19⟩)
    (yc19 : PySem.W.codeIn K ie19 "NoLimit.__init__" = true)
    (yk19 : PySem.W.keepIn K (.ref fi19) = true)
    {nm20 q20 : Str} {N20 : Addr} {bs20 bm20 : List Value} {sn20 : List Str} {sb20 : List Value} {ab20 : Bool} {cl20 : Option Bool} {dd20 : Option Addr} {ma20 mb20 mc20 md20 me20 : Option Value}
    (xo20 : K.lookup xa20 = some (excClassObj nm20 q20 xa20 N20 bs20 bm20 true sn20 sb20 ab20 cl20 dd20 ma20 mb20 mc20 md20 me20 "ValueError.__new__"))
    (xv20 : PySem.HandSPX.refsVE bm20 = true)
    (xd20 : PySem.W.findIn K (.ref xa20) "__setattr__" = some (some (.builtin "object.__setattr__")))
    (xf20_limit : PySem.W.findIn K (.ref xa20) "limit" = some none)
    {fi20 : Addr} {io20 iv20 ic20 ip20 ie20 it20 : Value} {iq20 iw20 : Option Addr} {iz20 : Array (Option Value)}
    (ya20 : PySem.W.findIn K (.ref xa20) "__init__" = some (some (.ref fi20)))
    (yt20 : PySem.W.typeIn K (.ref fi20) = some (.type "function"))
    (yl20 : K.lookup fi20 = some ⟨io20, iq20, .func (PySem.W.fnOf "__init__" "Full.__init__" (defArgs (inClass (top 21) 0)) (defBody (inClass (top 21) 0)) (defScope (inClass (top 21) 0)) .none iv20 ic20 ip20 iw20 ie20 it20), iz20⟩)
    (yc20 : PySem.W.codeIn K ie20 "Full.__init__" = true)
    (yk20 : PySem.W.keepIn K (.ref fi20) = true)
    (xj0_10 : PySem.W.subIn K (.ref xa0) (.ref xa10) = some false)
    (xj1_10 : PySem.W.subIn K (.ref xa1) (.ref xa10) = some false)
    (xj2_10 : PySem.W.subIn K (.ref xa2) (.ref xa10) = some false)
    (xj3_10 : PySem.W.subIn K (.ref xa3) (.ref xa10) = some false)
    (xj4_10 : PySem.W.subIn K (.ref xa4) (.ref xa10) = some false)
    (xj5_10 : PySem.W.subIn K (.ref xa5) (.ref xa10) = some false)
    (xj6_10 : PySem.W.subIn K (.ref xa6) (.ref xa10) = some false)
    (xj7_10 : PySem.W.subIn K (.ref xa7) (.ref xa10) = some false)
    (xj8_10 : PySem.W.subIn K (.ref xa8) (.ref xa10) = some false)
    (xj9_10 : PySem.W.subIn K (.ref xa9) (.ref xa10) = some false)
    (xj10_10 : PySem.W.subIn K (.ref xa10) (.ref xa10) = some true)
    (xj11_10 : PySem.W.subIn K (.ref xa11) (.ref xa10) = some false)
    (xj12_10 : PySem.W.subIn K (.ref xa12) (.ref xa10) = some false)
    (xj13_10 : PySem.W.subIn K (.ref xa13) (.ref xa10) = some false)
    (xj14_10 : PySem.W.subIn K (.ref xa14) (.ref xa10) = some false)
    (xj15_10 : PySem.W.subIn K (.ref xa15) (.ref xa10) = some false)
    (xj16_10 : PySem.W.subIn K (.ref xa16) (.ref xa10) = some false)
    (xj17_10 : PySem.W.subIn K (.ref xa17) (.ref xa10) = some false)
    (xj18_10 : PySem.W.subIn K (.ref xa18) (.ref xa10) = some false)
    (xj19_10 : PySem.W.subIn K (.ref xa19) (.ref xa10) = some false)
    (xj20_10 : PySem.W.subIn K (.ref xa20) (.ref xa10) = some false)
    (xj0_20 : PySem.W.subIn K (.ref xa0) (.ref xa20) = some false)
    (xj1_20 : PySem.W.subIn K (.ref xa1) (.ref xa20) = some false)
    (xj2_20 : PySem.W.subIn K (.ref xa2) (.ref xa20) = some false)
    (xj3_20 : PySem.W.subIn K (.ref xa3) (.ref xa20) = some false)
    (xj4_20 : PySem.W.subIn K (.ref xa4) (.ref xa20) = some false)
    (xj5_20 : PySem.W.subIn K (.ref xa5) (.ref xa20) = some false)
    (xj6_20 : PySem.W.subIn K (.ref xa6) (.ref xa20) = some false)
    (xj7_20 : PySem.W.subIn K (.ref xa7) (.ref xa20) = some false)
    (xj8_20 : PySem.W.subIn K (.ref xa8) (.ref xa20) = some false)
    (xj9_20 : PySem.W.subIn K (.ref xa9) (.ref xa20) = some false)
    (xj10_20 : PySem.W.subIn K (.ref xa10) (.ref xa20) = some false)
    (xj11_20 : PySem.W.subIn K (.ref xa11) (.ref xa20) = some false)
    (xj12_20 : PySem.W.subIn K (.ref xa12) (.ref xa20) = some false)
    (xj13_20 : PySem.W.subIn K (.ref xa13) (.ref xa20) = some false)
    (xj14_20 : PySem.W.subIn K (.ref xa14) (.ref xa20) = some false)
    (xj15_20 : PySem.W.subIn K (.ref xa15) (.ref xa20) = some false)
    (xj16_20 : PySem.W.subIn K (.ref xa16) (.ref xa20) = some false)
    (xj17_20 : PySem.W.subIn K (.ref xa17) (.ref xa20) = some false)
    (xj18_20 : PySem.W.subIn K (.ref xa18) (.ref xa20) = some false)
    (xj19_20 : PySem.W.subIn K (.ref xa19) (.ref xa20) = some false)
    (xj20_20 : PySem.W.subIn K (.ref xa20) (.ref xa20) = some true)
    (xj0_9 : PySem.W.subIn K (.ref xa0) (.ref xa9) = some false)
    (xj1_9 : PySem.W.subIn K (.ref xa1) (.ref xa9) = some false)
    (xj2_9 : PySem.W.subIn K (.ref xa2) (.ref xa9) = some false)
    (xj3_9 : PySem.W.subIn K (.ref xa3) (.ref xa9) = some false)
    (xj4_9 : PySem.W.subIn K (.ref xa4) (.ref xa9) = some false)
    (xj5_9 : PySem.W.subIn K (.ref xa5) (.ref xa9) = some false)
    (xj6_9 : PySem.W.subIn K (.ref xa6) (.ref xa9) = some false)
    (xj7_9 : PySem.W.subIn K (.ref xa7) (.ref xa9) = some false)
    (xj8_9 : PySem.W.subIn K (.ref xa8) (.ref xa9) = some false)
    (xj9_9 : PySem.W.subIn K (.ref xa9) (.ref xa9) = some true)
    (xj10_9 : PySem.W.subIn K (.ref xa10) (.ref xa9) = some false)
    (xj11_9 : PySem.W.subIn K (.ref xa11) (.ref xa9) = some false)
    (xj12_9 : PySem.W.subIn K (.ref xa12) (.ref xa9) = some false)
    (xj13_9 : PySem.W.subIn K (.ref xa13) (.ref xa9) = some false)
    (xj14_9 : PySem.W.subIn K (.ref xa14) (.ref xa9) = some false)
    (xj15_9 : PySem.W.subIn K (.ref xa15) (.ref xa9) = some false)
    (xj16_9 : PySem.W.subIn K (.ref xa16) (.ref xa9) = some false)
    (xj17_9 : PySem.W.subIn K (.ref xa17) (.ref xa9) = some false)
    (xj18_9 : PySem.W.subIn K (.ref xa18) (.ref xa9) = some false)
    (xj19_9 : PySem.W.subIn K (.ref xa19) (.ref xa9) = some false)
    (xj20_9 : PySem.W.subIn K (.ref xa20) (.ref xa9) = some false)
    (xj0_15 : PySem.W.subIn K (.ref xa0) (.ref xa15) = some false)
    (xj1_15 : PySem.W.subIn K (.ref xa1) (.ref xa15) = some false)
    (xj2_15 : PySem.W.subIn K (.ref xa2) (.ref xa15) = some false)
    (xj3_15 : PySem.W.subIn K (.ref xa3) (.ref xa15) = some false)
    (xj4_15 : PySem.W.subIn K (.ref xa4) (.ref xa15) = some false)
    (xj5_15 : PySem.W.subIn K (.ref xa5) (.ref xa15) = some false)
    (xj6_15 : PySem.W.subIn K (.ref xa6) (.ref xa15) = some false)
    (xj7_15 : PySem.W.subIn K (.ref xa7) (.ref xa15) = some false)
    (xj8_15 : PySem.W.subIn K (.ref xa8) (.ref xa15) = some false)
    (xj9_15 : PySem.W.subIn K (.ref xa9) (.ref xa15) = some false)
    (xj10_15 : PySem.W.subIn K (.ref xa10) (.ref xa15) = some false)
    (xj11_15 : PySem.W.subIn K (.ref xa11) (.ref xa15) = some false)
    (xj12_15 : PySem.W.subIn K (.ref xa12) (.ref xa15) = some false)
    (xj13_15 : PySem.W.subIn K (.ref xa13) (.ref xa15) = some false)
    (xj14_15 : PySem.W.subIn K (.ref xa14) (.ref xa15) = some false)
    (xj15_15 : PySem.W.subIn K (.ref xa15) (.ref xa15) = some true)
    (xj16_15 : PySem.W.subIn K (.ref xa16) (.ref xa15) = some false)
    (xj17_15 : PySem.W.subIn K (.ref xa17) (.ref xa15) = some false)
    (xj18_15 : PySem.W.subIn K (.ref xa18) (.ref xa15) = some false)
    (xj19_15 : PySem.W.subIn K (.ref xa19) (.ref xa15) = some false)
    (xj20_15 : PySem.W.subIn K (.ref xa20) (.ref xa15) = some false)
    (xj0_1 : PySem.W.subIn K (.ref xa0) (.ref xa1) = some false)
    (xj1_1 : PySem.W.subIn K (.ref xa1) (.ref xa1) = some true)
    (xj2_1 : PySem.W.subIn K (.ref xa2) (.ref xa1) = some false)
    (xj3_1 : PySem.W.subIn K (.ref xa3) (.ref xa1) = some false)
    (xj4_1 : PySem.W.subIn K (.ref xa4) (.ref xa1) = some false)
    (xj5_1 : PySem.W.subIn K (.ref xa5) (.ref xa1) = some false)
    (xj6_1 : PySem.W.subIn K (.ref xa6) (.ref xa1) = some false)
    (xj7_1 : PySem.W.subIn K (.ref xa7) (.ref xa1) = some false)
    (xj8_1 : PySem.W.subIn K (.ref xa8) (.ref xa1) = some false)
    (xj9_1 : PySem.W.subIn K (.ref xa9) (.ref xa1) = some false)
    (xj10_1 : PySem.W.subIn K (.ref xa10) (.ref xa1) = some false)
    (xj11_1 : PySem.W.subIn K (.ref xa11) (.ref xa1) = some false)
    (xj12_1 : PySem.W.subIn K (.ref xa12) (.ref xa1) = some false)
    (xj13_1 : PySem.W.subIn K (.ref xa13) (.ref xa1) = some false)
    (xj14_1 : PySem.W.subIn K (.ref xa14) (.ref xa1) = some false)
    (xj15_1 : PySem.W.subIn K (.ref xa15) (.ref xa1) = some false)
    (xj16_1 : PySem.W.subIn K (.ref xa16) (.ref xa1) = some false)
    (xj17_1 : PySem.W.subIn K (.ref xa17) (.ref xa1) = some false)
    (xj18_1 : PySem.W.subIn K (.ref xa18) (.ref xa1) = some false)
    (xj19_1 : PySem.W.subIn K (.ref xa19) (.ref xa1) = some false)
    (xj20_1 : PySem.W.subIn K (.ref xa20) (.ref xa1) = some false)
    (xj0_5 : PySem.W.subIn K (.ref xa0) (.ref xa5) = some false)
    (xj1_5 : PySem.W.subIn K (.ref xa1) (.ref xa5) = some false)
    (xj2_5 : PySem.W.subIn K (.ref xa2) (.ref xa5) = some false)
    (xj3_5 : PySem.W.subIn K (.ref xa3) (.ref xa5) = some false)
    (xj4_5 : PySem.W.subIn K (.ref xa4) (.ref xa5) = some false)
    (xj5_5 : PySem.W.subIn K (.ref xa5) (.ref xa5) = some true)
    (xj6_5 : PySem.W.subIn K (.ref xa6) (.ref xa5) = some false)
    (xj7_5 : PySem.W.subIn K (.ref xa7) (.ref xa5) = some false)
    (xj8_5 : PySem.W.subIn K (.ref xa8) (.ref xa5) = some false)
    (xj9_5 : PySem.W.subIn K (.ref xa9) (.ref xa5) = some false)
    (xj10_5 : PySem.W.subIn K (.ref xa10) (.ref xa5) = some false)
    (xj11_5 : PySem.W.subIn K (.ref xa11) (.ref xa5) = some false)
    (xj12_5 : PySem.W.subIn K (.ref xa12) (.ref xa5) = some false)
    (xj13_5 : PySem.W.subIn K (.ref xa13) (.ref xa5) = some false)
    (xj14_5 : PySem.W.subIn K (.ref xa14) (.ref xa5) = some false)
    (xj15_5 : PySem.W.subIn K (.ref xa15) (.ref xa5) = some false)
    (xj16_5 : PySem.W.subIn K (.ref xa16) (.ref xa5) = some false)
    (xj17_5 : PySem.W.subIn K (.ref xa17) (.ref xa5) = some false)
    (xj18_5 : PySem.W.subIn K (.ref xa18) (.ref xa5) = some false)
    (xj19_5 : PySem.W.subIn K (.ref xa19) (.ref xa5) = some false)
    (xj20_5 : PySem.W.subIn K (.ref xa20) (.ref xa5) = some false)
    (xj0_12 : PySem.W.subIn K (.ref xa0) (.ref xa12) = some false)
    (xj1_12 : PySem.W.subIn K (.ref xa1) (.ref xa12) = some false)
    (xj2_12 : PySem.W.subIn K (.ref xa2) (.ref xa12) = some false)
    (xj3_12 : PySem.W.subIn K (.ref xa3) (.ref xa12) = some false)
    (xj4_12 : PySem.W.subIn K (.ref xa4) (.ref xa12) = some false)
    (xj5_12 : PySem.W.subIn K (.ref xa5) (.ref xa12) = some false)
    (xj6_12 : PySem.W.subIn K (.ref xa6) (.ref xa12) = some false)
    (xj7_12 : PySem.W.subIn K (.ref xa7) (.ref xa12) = some false)
    (xj8_12 : PySem.W.subIn K (.ref xa8) (.ref xa12) = some false)
    (xj9_12 : PySem.W.subIn K (.ref xa9) (.ref xa12) = some false)
    (xj10_12 : PySem.W.subIn K (.ref xa10) (.ref xa12) = some false)
    (xj11_12 : PySem.W.subIn K (.ref xa11) (.ref xa12) = some false)
    (xj12_12 : PySem.W.subIn K (.ref xa12) (.ref xa12) = some true)
    (xj13_12 : PySem.W.subIn K (.ref xa13) (.ref xa12) = some false)
    (xj14_12 : PySem.W.subIn K (.ref xa14) (.ref xa12) = some false)
    (xj15_12 : PySem.W.subIn K (.ref xa15) (.ref xa12) = some false)
    (xj16_12 : PySem.W.subIn K (.ref xa16) (.ref xa12) = some false)
    (xj17_12 : PySem.W.subIn K (.ref xa17) (.ref xa12) = some false)
    (xj18_12 : PySem.W.subIn K (.ref xa18) (.ref xa12) = some false)
    (xj19_12 : PySem.W.subIn K (.ref xa19) (.ref xa12) = some false)
    (xj20_12 : PySem.W.subIn K (.ref xa20) (.ref xa12) = some false)
    (xj0_7 : PySem.W.subIn K (.ref xa0) (.ref xa7) = some false)
    (xj1_7 : PySem.W.subIn K (.ref xa1) (.ref xa7) = some false)
    (xj2_7 : PySem.W.subIn K (.ref xa2) (.ref xa7) = some false)
    (xj3_7 : PySem.W.subIn K (.ref xa3) (.ref xa7) = some false)
    (xj4_7 : PySem.W.subIn K (.ref xa4) (.ref xa7) = some false)
    (xj5_7 : PySem.W.subIn K (.ref xa5) (.ref xa7) = some false)
    (xj6_7 : PySem.W.subIn K (.ref xa6) (.ref xa7) = some false)
    (xj7_7 : PySem.W.subIn K (.ref xa7) (.ref xa7) = some true)
    (xj8_7 : PySem.W.subIn K (.ref xa8) (.ref xa7) = some false)
    (xj9_7 : PySem.W.subIn K (.ref xa9) (.ref xa7) = some false)
    (xj10_7 : PySem.W.subIn K (.ref xa10) (.ref xa7) = some false)
    (xj11_7 : PySem.W.subIn K (.ref xa11) (.ref xa7) = some false)
    (xj12_7 : PySem.W.subIn K (.ref xa12) (.ref xa7) = some false)
    (xj13_7 : PySem.W.subIn K (.ref xa13) (.ref xa7) = some false)
    (xj14_7 : PySem.W.subIn K (.ref xa14) (.ref xa7) = some false)
    (xj15_7 : PySem.W.subIn K (.ref xa15) (.ref xa7) = some false)
    (xj16_7 : PySem.W.subIn K (.ref xa16) (.ref xa7) = some false)
    (xj17_7 : PySem.W.subIn K (.ref xa17) (.ref xa7) = some false)
    (xj18_7 : PySem.W.subIn K (.ref xa18) (.ref xa7) = some false)
    (xj19_7 : PySem.W.subIn K (.ref xa19) (.ref xa7) = some false)
    (xj20_7 : PySem.W.subIn K (.ref xa20) (.ref xa7) = some false)
    (xj0_19 : PySem.W.subIn K (.ref xa0) (.ref xa19) = some false)
    (xj1_19 : PySem.W.subIn K (.ref xa1) (.ref xa19) = some false)
    (xj2_19 : PySem.W.subIn K (.ref xa2) (.ref xa19) = some false)
    (xj3_19 : PySem.W.subIn K (.ref xa3) (.ref xa19) = some false)
    (xj4_19 : PySem.W.subIn K (.ref xa4) (.ref xa19) = some false)
    (xj5_19 : PySem.W.subIn K (.ref xa5) (.ref xa19) = some false)
    (xj6_19 : PySem.W.subIn K (.ref xa6) (.ref xa19) = some false)
    (xj7_19 : PySem.W.subIn K (.ref xa7) (.ref xa19) = some false)
    (xj8_19 : PySem.W.subIn K (.ref xa8) (.ref xa19) = some false)
    (xj9_19 : PySem.W.subIn K (.ref xa9) (.ref xa19) = some false)
    (xj10_19 : PySem.W.subIn K (.ref xa10) (.ref xa19) = some false)
    (xj11_19 : PySem.W.subIn K (.ref xa11) (.ref xa19) = some false)
    (xj12_19 : PySem.W.subIn K (.ref xa12) (.ref xa19) = some false)
    (xj13_19 : PySem.W.subIn K (.ref xa13) (.ref xa19) = some false)
    (xj14_19 : PySem.W.subIn K (.ref xa14) (.ref xa19) = some false)
    (xj15_19 : PySem.W.subIn K (.ref xa15) (.ref xa19) = some false)
    (xj16_19 : PySem.W.subIn K (.ref xa16) (.ref xa19) = some false)
    (xj17_19 : PySem.W.subIn K (.ref xa17) (.ref xa19) = some false)
    (xj18_19 : PySem.W.subIn K (.ref xa18) (.ref xa19) = some false)
    (xj19_19 : PySem.W.subIn K (.ref xa19) (.ref xa19) = some true)
    (xj20_19 : PySem.W.subIn K (.ref xa20) (.ref xa19) = some false)
    (xj0_14 : PySem.W.subIn K (.ref xa0) (.ref xa14) = some false)
    (xj1_14 : PySem.W.subIn K (.ref xa1) (.ref xa14) = some false)
    (xj2_14 : PySem.W.subIn K (.ref xa2) (.ref xa14) = some false)
    (xj3_14 : PySem.W.subIn K (.ref xa3) (.ref xa14) = some false)
    (xj4_14 : PySem.W.subIn K (.ref xa4) (.ref xa14) = some false)
    (xj5_14 : PySem.W.subIn K (.ref xa5) (.ref xa14) = some false)
    (xj6_14 : PySem.W.subIn K (.ref xa6) (.ref xa14) = some false)
    (xj7_14 : PySem.W.subIn K (.ref xa7) (.ref xa14) = some false)
    (xj8_14 : PySem.W.subIn K (.ref xa8) (.ref xa14) = some false)
    (xj9_14 : PySem.W.subIn K (.ref xa9) (.ref xa14) = some false)
    (xj10_14 : PySem.W.subIn K (.ref xa10) (.ref xa14) = some false)
    (xj11_14 : PySem.W.subIn K (.ref xa11) (.ref xa14) = some false)
    (xj12_14 : PySem.W.subIn K (.ref xa12) (.ref xa14) = some false)
    (xj13_14 : PySem.W.subIn K (.ref xa13) (.ref xa14) = some false)
    (xj14_14 : PySem.W.subIn K (.ref xa14) (.ref xa14) = some true)
    (xj15_14 : PySem.W.subIn K (.ref xa15) (.ref xa14) = some false)
    (xj16_14 : PySem.W.subIn K (.ref xa16) (.ref xa14) = some false)
    (xj17_14 : PySem.W.subIn K (.ref xa17) (.ref xa14) = some false)
    (xj18_14 : PySem.W.subIn K (.ref xa18) (.ref xa14) = some false)
    (xj19_14 : PySem.W.subIn K (.ref xa19) (.ref xa14) = some false)
    (xj20_14 : PySem.W.subIn K (.ref xa20) (.ref xa14) = some false)
    (xj0_13 : PySem.W.subIn K (.ref xa0) (.ref xa13) = some false)
    (xj1_13 : PySem.W.subIn K (.ref xa1) (.ref xa13) = some false)
    (xj2_13 : PySem.W.subIn K (.ref xa2) (.ref xa13) = some false)
    (xj3_13 : PySem.W.subIn K (.ref xa3) (.ref xa13) = some false)
    (xj4_13 : PySem.W.subIn K (.ref xa4) (.ref xa13) = some false)
    (xj5_13 : PySem.W.subIn K (.ref xa5) (.ref xa13) = some false)
    (xj6_13 : PySem.W.subIn K (.ref xa6) (.ref xa13) = some false)
    (xj7_13 : PySem.W.subIn K (.ref xa7) (.ref xa13) = some false)
    (xj8_13 : PySem.W.subIn K (.ref xa8) (.ref xa13) = some false)
    (xj9_13 : PySem.W.subIn K (.ref xa9) (.ref xa13) = some false)
    (xj10_13 : PySem.W.subIn K (.ref xa10) (.ref xa13) = some false)
    (xj11_13 : PySem.W.subIn K (.ref xa11) (.ref xa13) = some false)
    (xj12_13 : PySem.W.subIn K (.ref xa12) (.ref xa13) = some false)
    (xj13_13 : PySem.W.subIn K (.ref xa13) (.ref xa13) = some true)
    (xj14_13 : PySem.W.subIn K (.ref xa14) (.ref xa13) = some false)
    (xj15_13 : PySem.W.subIn K (.ref xa15) (.ref xa13) = some false)
    (xj16_13 : PySem.W.subIn K (.ref xa16) (.ref xa13) = some false)
    (xj17_13 : PySem.W.subIn K (.ref xa17) (.ref xa13) = some false)
    (xj18_13 : PySem.W.subIn K (.ref xa18) (.ref xa13) = some false)
    (xj19_13 : PySem.W.subIn K (.ref xa19) (.ref xa13) = some false)
    (xj20_13 : PySem.W.subIn K (.ref xa20) (.ref xa13) = some false)
    (xj0_18 : PySem.W.subIn K (.ref xa0) (.ref xa18) = some false)
    (xj1_18 : PySem.W.subIn K (.ref xa1) (.ref xa18) = some false)
    (xj2_18 : PySem.W.subIn K (.ref xa2) (.ref xa18) = some false)
    (xj3_18 : PySem.W.subIn K (.ref xa3) (.ref xa18) = some false)
    (xj4_18 : PySem.W.subIn K (.ref xa4) (.ref xa18) = some false)
    (xj5_18 : PySem.W.subIn K (.ref xa5) (.ref xa18) = some false)
    (xj6_18 : PySem.W.subIn K (.ref xa6) (.ref xa18) = some false)
    (xj7_18 : PySem.W.subIn K (.ref xa7) (.ref xa18) = some false)
    (xj8_18 : PySem.W.subIn K (.ref xa8) (.ref xa18) = some false)
    (xj9_18 : PySem.W.subIn K (.ref xa9) (.ref xa18) = some false)
    (xj10_18 : PySem.W.subIn K (.ref xa10) (.ref xa18) = some false)
    (xj11_18 : PySem.W.subIn K (.ref xa11) (.ref xa18) = some false)
    (xj12_18 : PySem.W.subIn K (.ref xa12) (.ref xa18) = some false)
    (xj13_18 : PySem.W.subIn K (.ref xa13) (.ref xa18) = some false)
    (xj14_18 : PySem.W.subIn K (.ref xa14) (.ref xa18) = some false)
    (xj15_18 : PySem.W.subIn K (.ref xa15) (.ref xa18) = some false)
    (xj16_18 : PySem.W.subIn K (.ref xa16) (.ref xa18) = some false)
    (xj17_18 : PySem.W.subIn K (.ref xa17) (.ref xa18) = some false)
    (xj18_18 : PySem.W.subIn K (.ref xa18) (.ref xa18) = some true)
    (xj19_18 : PySem.W.subIn K (.ref xa19) (.ref xa18) = some false)
    (xj20_18 : PySem.W.subIn K (.ref xa20) (.ref xa18) = some false)
    (xj0_8 : PySem.W.subIn K (.ref xa0) (.ref xa8) = some false)
    (xj1_8 : PySem.W.subIn K (.ref xa1) (.ref xa8) = some false)
    (xj2_8 : PySem.W.subIn K (.ref xa2) (.ref xa8) = some false)
    (xj3_8 : PySem.W.subIn K (.ref xa3) (.ref xa8) = some false)
    (xj4_8 : PySem.W.subIn K (.ref xa4) (.ref xa8) = some false)
    (xj5_8 : PySem.W.subIn K (.ref xa5) (.ref xa8) = some false)
    (xj6_8 : PySem.W.subIn K (.ref xa6) (.ref xa8) = some false)
    (xj7_8 : PySem.W.subIn K (.ref xa7) (.ref xa8) = some false)
    (xj8_8 : PySem.W.subIn K (.ref xa8) (.ref xa8) = some true)
    (xj9_8 : PySem.W.subIn K (.ref xa9) (.ref xa8) = some false)
    (xj10_8 : PySem.W.subIn K (.ref xa10) (.ref xa8) = some false)
    (xj11_8 : PySem.W.subIn K (.ref xa11) (.ref xa8) = some false)
    (xj12_8 : PySem.W.subIn K (.ref xa12) (.ref xa8) = some false)
    (xj13_8 : PySem.W.subIn K (.ref xa13) (.ref xa8) = some false)
    (xj14_8 : PySem.W.subIn K (.ref xa14) (.ref xa8) = some false)
    (xj15_8 : PySem.W.subIn K (.ref xa15) (.ref xa8) = some false)
    (xj16_8 : PySem.W.subIn K (.ref xa16) (.ref xa8) = some false)
    (xj17_8 : PySem.W.subIn K (.ref xa17) (.ref xa8) = some false)
    (xj18_8 : PySem.W.subIn K (.ref xa18) (.ref xa8) = some false)
    (xj19_8 : PySem.W.subIn K (.ref xa19) (.ref xa8) = some false)
    (xj20_8 : PySem.W.subIn K (.ref xa20) (.ref xa8) = some false)
    (xj0_11 : PySem.W.subIn K (.ref xa0) (.ref xa11) = some false)
    (xj1_11 : PySem.W.subIn K (.ref xa1) (.ref xa11) = some false)
    (xj2_11 : PySem.W.subIn K (.ref xa2) (.ref xa11) = some false)
    (xj3_11 : PySem.W.subIn K (.ref xa3) (.ref xa11) = some false)
    (xj4_11 : PySem.W.subIn K (.ref xa4) (.ref xa11) = some false)
    (xj5_11 : PySem.W.subIn K (.ref xa5) (.ref xa11) = some false)
    (xj6_11 : PySem.W.subIn K (.ref xa6) (.ref xa11) = some false)
    (xj7_11 : PySem.W.subIn K (.ref xa7) (.ref xa11) = some false)
    (xj8_11 : PySem.W.subIn K (.ref xa8) (.ref xa11) = some false)
    (xj9_11 : PySem.W.subIn K (.ref xa9) (.ref xa11) = some false)
    (xj10_11 : PySem.W.subIn K (.ref xa10) (.ref xa11) = some false)
    (xj11_11 : PySem.W.subIn K (.ref xa11) (.ref xa11) = some true)
    (xj12_11 : PySem.W.subIn K (.ref xa12) (.ref xa11) = some false)
    (xj13_11 : PySem.W.subIn K (.ref xa13) (.ref xa11) = some false)
    (xj14_11 : PySem.W.subIn K (.ref xa14) (.ref xa11) = some false)
    (xj15_11 : PySem.W.subIn K (.ref xa15) (.ref xa11) = some false)
    (xj16_11 : PySem.W.subIn K (.ref xa16) (.ref xa11) = some false)
    (xj17_11 : PySem.W.subIn K (.ref xa17) (.ref xa11) = some false)
    (xj18_11 : PySem.W.subIn K (.ref xa18) (.ref xa11) = some false)
    (xj19_11 : PySem.W.subIn K (.ref xa19) (.ref xa11) = some false)
    (xj20_11 : PySem.W.subIn K (.ref xa20) (.ref xa11) = some false)
    (xj0_17 : PySem.W.subIn K (.ref xa0) (.ref xa17) = some false)
    (xj1_17 : PySem.W.subIn K (.ref xa1) (.ref xa17) = some false)
    (xj2_17 : PySem.W.subIn K (.ref xa2) (.ref xa17) = some false)
    (xj3_17 : PySem.W.subIn K (.ref xa3) (.ref xa17) = some false)
    (xj4_17 : PySem.W.subIn K (.ref xa4) (.ref xa17) = some false)
    (xj5_17 : PySem.W.subIn K (.ref xa5) (.ref xa17) = some false)
    (xj6_17 : PySem.W.subIn K (.ref xa6) (.ref xa17) = some false)
    (xj7_17 : PySem.W.subIn K (.ref xa7) (.ref xa17) = some false)
    (xj8_17 : PySem.W.subIn K (.ref xa8) (.ref xa17) = some false)
    (xj9_17 : PySem.W.subIn K (.ref xa9) (.ref xa17) = some false)
    (xj10_17 : PySem.W.subIn K (.ref xa10) (.ref xa17) = some false)
    (xj11_17 : PySem.W.subIn K (.ref xa11) (.ref xa17) = some false)
    (xj12_17 : PySem.W.subIn K (.ref xa12) (.ref xa17) = some false)
    (xj13_17 : PySem.W.subIn K (.ref xa13) (.ref xa17) = some false)
    (xj14_17 : PySem.W.subIn K (.ref xa14) (.ref xa17) = some false)
    (xj15_17 : PySem.W.subIn K (.ref xa15) (.ref xa17) = some false)
    (xj16_17 : PySem.W.subIn K (.ref xa16) (.ref xa17) = some false)
    (xj17_17 : PySem.W.subIn K (.ref xa17) (.ref xa17) = some true)
    (xj18_17 : PySem.W.subIn K (.ref xa18) (.ref xa17) = some false)
    (xj19_17 : PySem.W.subIn K (.ref xa19) (.ref xa17) = some false)
    (xj20_17 : PySem.W.subIn K (.ref xa20) (.ref xa17) = some false)
    (xj0_3 : PySem.W.subIn K (.ref xa0) (.ref xa3) = some false)
    (xj1_3 : PySem.W.subIn K (.ref xa1) (.ref xa3) = some false)
    (xj2_3 : PySem.W.subIn K (.ref xa2) (.ref xa3) = some false)
    (xj3_3 : PySem.W.subIn K (.ref xa3) (.ref xa3) = some true)
    (xj4_3 : PySem.W.subIn K (.ref xa4) (.ref xa3) = some false)
    (xj5_3 : PySem.W.subIn K (.ref xa5) (.ref xa3) = some false)
    (xj6_3 : PySem.W.subIn K (.ref xa6) (.ref xa3) = some false)
    (xj7_3 : PySem.W.subIn K (.ref xa7) (.ref xa3) = some false)
    (xj8_3 : PySem.W.subIn K (.ref xa8) (.ref xa3) = some false)
    (xj9_3 : PySem.W.subIn K (.ref xa9) (.ref xa3) = some false)
    (xj10_3 : PySem.W.subIn K (.ref xa10) (.ref xa3) = some false)
    (xj11_3 : PySem.W.subIn K (.ref xa11) (.ref xa3) = some false)
    (xj12_3 : PySem.W.subIn K (.ref xa12) (.ref xa3) = some false)
    (xj13_3 : PySem.W.subIn K (.ref xa13) (.ref xa3) = some false)
    (xj14_3 : PySem.W.subIn K (.ref xa14) (.ref xa3) = some false)
    (xj15_3 : PySem.W.subIn K (.ref xa15) (.ref xa3) = some false)
    (xj16_3 : PySem.W.subIn K (.ref xa16) (.ref xa3) = some false)
    (xj17_3 : PySem.W.subIn K (.ref xa17) (.ref xa3) = some false)
    (xj18_3 : PySem.W.subIn K (.ref xa18) (.ref xa3) = some false)
    (xj19_3 : PySem.W.subIn K (.ref xa19) (.ref xa3) = some false)
    (xj20_3 : PySem.W.subIn K (.ref xa20) (.ref xa3) = some false)
    (xj0_2 : PySem.W.subIn K (.ref xa0) (.ref xa2) = some false)
    (xj1_2 : PySem.W.subIn K (.ref xa1) (.ref xa2) = some false)
    (xj2_2 : PySem.W.subIn K (.ref xa2) (.ref xa2) = some true)
    (xj3_2 : PySem.W.subIn K (.ref xa3) (.ref xa2) = some false)
    (xj4_2 : PySem.W.subIn K (.ref xa4) (.ref xa2) = some false)
    (xj5_2 : PySem.W.subIn K (.ref xa5) (.ref xa2) = some false)
    (xj6_2 : PySem.W.subIn K (.ref xa6) (.ref xa2) = some false)
    (xj7_2 : PySem.W.subIn K (.ref xa7) (.ref xa2) = some false)
    (xj8_2 : PySem.W.subIn K (.ref xa8) (.ref xa2) = some false)
    (xj9_2 : PySem.W.subIn K (.ref xa9) (.ref xa2) = some false)
    (xj10_2 : PySem.W.subIn K (.ref xa10) (.ref xa2) = some false)
    (xj11_2 : PySem.W.subIn K (.ref xa11) (.ref xa2) = some false)
    (xj12_2 : PySem.W.subIn K (.ref xa12) (.ref xa2) = some false)
    (xj13_2 : PySem.W.subIn K (.ref xa13) (.ref xa2) = some false)
    (xj14_2 : PySem.W.subIn K (.ref xa14) (.ref xa2) = some false)
    (xj15_2 : PySem.W.subIn K (.ref xa15) (.ref xa2) = some false)
    (xj16_2 : PySem.W.subIn K (.ref xa16) (.ref xa2) = some false)
    (xj17_2 : PySem.W.subIn K (.ref xa17) (.ref xa2) = some false)
    (xj18_2 : PySem.W.subIn K (.ref xa18) (.ref xa2) = some false)
    (xj19_2 : PySem.W.subIn K (.ref xa19) (.ref xa2) = some false)
    (xj20_2 : PySem.W.subIn K (.ref xa20) (.ref xa2) = some false)
    (xj0_4 : PySem.W.subIn K (.ref xa0) (.ref xa4) = some false)
    (xj1_4 : PySem.W.subIn K (.ref xa1) (.ref xa4) = some false)
    (xj2_4 : PySem.W.subIn K (.ref xa2) (.ref xa4) = some false)
    (xj3_4 : PySem.W.subIn K (.ref xa3) (.ref xa4) = some false)
    (xj4_4 : PySem.W.subIn K (.ref xa4) (.ref xa4) = some true)
    (xj5_4 : PySem.W.subIn K (.ref xa5) (.ref xa4) = some false)
    (xj6_4 : PySem.W.subIn K (.ref xa6) (.ref xa4) = some false)
    (xj7_4 : PySem.W.subIn K (.ref xa7) (.ref xa4) = some false)
    (xj8_4 : PySem.W.subIn K (.ref xa8) (.ref xa4) = some false)
    (xj9_4 : PySem.W.subIn K (.ref xa9) (.ref xa4) = some false)
    (xj10_4 : PySem.W.subIn K (.ref xa10) (.ref xa4) = some false)
    (xj11_4 : PySem.W.subIn K (.ref xa11) (.ref xa4) = some false)
    (xj12_4 : PySem.W.subIn K (.ref xa12) (.ref xa4) = some false)
    (xj13_4 : PySem.W.subIn K (.ref xa13) (.ref xa4) = some false)
    (xj14_4 : PySem.W.subIn K (.ref xa14) (.ref xa4) = some false)
    (xj15_4 : PySem.W.subIn K (.ref xa15) (.ref xa4) = some false)
    (xj16_4 : PySem.W.subIn K (.ref xa16) (.ref xa4) = some false)
    (xj17_4 : PySem.W.subIn K (.ref xa17) (.ref xa4) = some false)
    (xj18_4 : PySem.W.subIn K (.ref xa18) (.ref xa4) = some false)
    (xj19_4 : PySem.W.subIn K (.ref xa19) (.ref xa4) = some false)
    (xj20_4 : PySem.W.subIn K (.ref xa20) (.ref xa4) = some false)
    (xj0_6 : PySem.W.subIn K (.ref xa0) (.ref xa6) = some false)
    (xj1_6 : PySem.W.subIn K (.ref xa1) (.ref xa6) = some false)
    (xj2_6 : PySem.W.subIn K (.ref xa2) (.ref xa6) = some false)
    (xj3_6 : PySem.W.subIn K (.ref xa3) (.ref xa6) = some false)
    (xj4_6 : PySem.W.subIn K (.ref xa4) (.ref xa6) = some false)
    (xj5_6 : PySem.W.subIn K (.ref xa5) (.ref xa6) = some false)
    (xj6_6 : PySem.W.subIn K (.ref xa6) (.ref xa6) = some true)
    (xj7_6 : PySem.W.subIn K (.ref xa7) (.ref xa6) = some false)
    (xj8_6 : PySem.W.subIn K (.ref xa8) (.ref xa6) = some false)
    (xj9_6 : PySem.W.subIn K (.ref xa9) (.ref xa6) = some false)
    (xj10_6 : PySem.W.subIn K (.ref xa10) (.ref xa6) = some false)
    (xj11_6 : PySem.W.subIn K (.ref xa11) (.ref xa6) = some false)
    (xj12_6 : PySem.W.subIn K (.ref xa12) (.ref xa6) = some false)
    (xj13_6 : PySem.W.subIn K (.ref xa13) (.ref xa6) = some false)
    (xj14_6 : PySem.W.subIn K (.ref xa14) (.ref xa6) = some false)
    (xj15_6 : PySem.W.subIn K (.ref xa15) (.ref xa6) = some false)
    (xj16_6 : PySem.W.subIn K (.ref xa16) (.ref xa6) = some false)
    (xj17_6 : PySem.W.subIn K (.ref xa17) (.ref xa6) = some false)
    (xj18_6 : PySem.W.subIn K (.ref xa18) (.ref xa6) = some false)
    (xj19_6 : PySem.W.subIn K (.ref xa19) (.ref xa6) = some false)
    (xj20_6 : PySem.W.subIn K (.ref xa20) (.ref xa6) = some false)
    (xj0_16 : PySem.W.subIn K (.ref xa0) (.ref xa16) = some false)
    (xj1_16 : PySem.W.subIn K (.ref xa1) (.ref xa16) = some false)
    (xj2_16 : PySem.W.subIn K (.ref xa2) (.ref xa16) = some false)
    (xj3_16 : PySem.W.subIn K (.ref xa3) (.ref xa16) = some false)
    (xj4_16 : PySem.W.subIn K (.ref xa4) (.ref xa16) = some false)
    (xj5_16 : PySem.W.subIn K (.ref xa5) (.ref xa16) = some false)
    (xj6_16 : PySem.W.subIn K (.ref xa6) (.ref xa16) = some false)
    (xj7_16 : PySem.W.subIn K (.ref xa7) (.ref xa16) = some false)
    (xj8_16 : PySem.W.subIn K (.ref xa8) (.ref xa16) = some false)
    (xj9_16 : PySem.W.subIn K (.ref xa9) (.ref xa16) = some false)
    (xj10_16 : PySem.W.subIn K (.ref xa10) (.ref xa16) = some false)
    (xj11_16 : PySem.W.subIn K (.ref xa11) (.ref xa16) = some false)
    (xj12_16 : PySem.W.subIn K (.ref xa12) (.ref xa16) = some false)
    (xj13_16 : PySem.W.subIn K (.ref xa13) (.ref xa16) = some false)
    (xj14_16 : PySem.W.subIn K (.ref xa14) (.ref xa16) = some false)
    (xj15_16 : PySem.W.subIn K (.ref xa15) (.ref xa16) = some false)
    (xj16_16 : PySem.W.subIn K (.ref xa16) (.ref xa16) = some true)
    (xj17_16 : PySem.W.subIn K (.ref xa17) (.ref xa16) = some false)
    (xj18_16 : PySem.W.subIn K (.ref xa18) (.ref xa16) = some false)
    (xj19_16 : PySem.W.subIn K (.ref xa19) (.ref xa16) = some false)
    (xj20_16 : PySem.W.subIn K (.ref xa20) (.ref xa16) = some false)
    (xj0_0 : PySem.W.subIn K (.ref xa0) (.ref xa0) = some true)
    (xj1_0 : PySem.W.subIn K (.ref xa1) (.ref xa0) = some true)
    (xj2_0 : PySem.W.subIn K (.ref xa2) (.ref xa0) = some true)
    (xj3_0 : PySem.W.subIn K (.ref xa3) (.ref xa0) = some true)
    (xj4_0 : PySem.W.subIn K (.ref xa4) (.ref xa0) = some true)
    (xj5_0 : PySem.W.subIn K (.ref xa5) (.ref xa0) = some true)
    (xj6_0 : PySem.W.subIn K (.ref xa6) (.ref xa0) = some true)
    (xj7_0 : PySem.W.subIn K (.ref xa7) (.ref xa0) = some true)
    (xj8_0 : PySem.W.subIn K (.ref xa8) (.ref xa0) = some true)
    (xj9_0 : PySem.W.subIn K (.ref xa9) (.ref xa0) = some true)
    (xj10_0 : PySem.W.subIn K (.ref xa10) (.ref xa0) = some true)
    (xj11_0 : PySem.W.subIn K (.ref xa11) (.ref xa0) = some true)
    (xj12_0 : PySem.W.subIn K (.ref xa12) (.ref xa0) = some true)
    (xj13_0 : PySem.W.subIn K (.ref xa13) (.ref xa0) = some true)
    (xj14_0 : PySem.W.subIn K (.ref xa14) (.ref xa0) = some true)
    (xj15_0 : PySem.W.subIn K (.ref xa15) (.ref xa0) = some true)
    (xj16_0 : PySem.W.subIn K (.ref xa16) (.ref xa0) = some true)
    (xj17_0 : PySem.W.subIn K (.ref xa17) (.ref xa0) = some true)
    (xj18_0 : PySem.W.subIn K (.ref xa18) (.ref xa0) = some true)
    (xj19_0 : PySem.W.subIn K (.ref xa19) (.ref xa0) = some true)
    (xj20_0 : PySem.W.subIn K (.ref xa20) (.ref xa0) = some true)
    (xj0_ValueError : PySem.W.subIn K (.ref xa0) (.type "ValueError") = some true)
    (xj1_ValueError : PySem.W.subIn K (.ref xa1) (.type "ValueError") = some true)
    (xj2_ValueError : PySem.W.subIn K (.ref xa2) (.type "ValueError") = some true)
    (xj3_ValueError : PySem.W.subIn K (.ref xa3) (.type "ValueError") = some true)
    (xj4_ValueError : PySem.W.subIn K (.ref xa4) (.type "ValueError") = some true)
    (xj5_ValueError : PySem.W.subIn K (.ref xa5) (.type "ValueError") = some true)
    (xj6_ValueError : PySem.W.subIn K (.ref xa6) (.type "ValueError") = some true)
    (xj7_ValueError : PySem.W.subIn K (.ref xa7) (.type "ValueError") = some true)
    (xj8_ValueError : PySem.W.subIn K (.ref xa8) (.type "ValueError") = some true)
    (xj9_ValueError : PySem.W.subIn K (.ref xa9) (.type "ValueError") = some true)
    (xj10_ValueError : PySem.W.subIn K (.ref xa10) (.type "ValueError") = some true)
    (xj11_ValueError : PySem.W.subIn K (.ref xa11) (.type "ValueError") = some true)
    (xj12_ValueError : PySem.W.subIn K (.ref xa12) (.type "ValueError") = some true)
    (xj13_ValueError : PySem.W.subIn K (.ref xa13) (.type "ValueError") = some true)
    (xj14_ValueError : PySem.W.subIn K (.ref xa14) (.type "ValueError") = some true)
    (xj15_ValueError : PySem.W.subIn K (.ref xa15) (.type "ValueError") = some true)
    (xj16_ValueError : PySem.W.subIn K (.ref xa16) (.type "ValueError") = some true)
    (xj17_ValueError : PySem.W.subIn K (.ref xa17) (.type "ValueError") = some true)
    (xj18_ValueError : PySem.W.subIn K (.ref xa18) (.type "ValueError") = some true)
    (xj19_ValueError : PySem.W.subIn K (.ref xa19) (.type "ValueError") = some true)
    (xj20_ValueError : PySem.W.subIn K (.ref xa20) (.type "ValueError") = some true) :
    ∃ fd : FuncData, (∀ (s : Shared) (u : Value), BindsTo s fd ⟨[u], []⟩ [("_law_script", u)]) ∧ ∀ base : Heap, K.In base → base.Ns mainGlobals mg → FnG P w K mg base (L2.CX P w) 9 fa fd ["_law_script"] (spLaw f_law) := by
  subst hlv
  have T : Txt K mg ⟨K, (fun k => ([xa0, xa1, xa2, xa3, xa4, xa5, xa6, xa7, xa8, xa9, xa10, xa11, xa12, xa13, xa14, xa15, xa16, xa17, xa18, xa19, xa20] : List Addr).getD k 0), (fun k => ([[], [], [], [], [], [], [], ["key"], ["key"], ["key"], ["key"], ["part"], ["part"], ["part"], ["index"], ["index"], ["why", "index"], ["part"], ["name"], ["limit"], ["limit"]] : List (List Str)).getD k []), fun _ => .non⟩ := ⟨rfl,
    PySem.W.mg_none_of KX GT b_ValueError,
    PySem.W.mg_none_of KX GT b_abs,
    PySem.W.mg_none_of KX GT b_all,
    PySem.W.mg_none_of KX GT b_bool,
    PySem.W.mg_none_of KX GT b_int,
    PySem.W.mg_none_of KX GT b_isinstance,
    PySem.W.mg_none_of KX GT b_len,
    PySem.W.mg_none_of KX GT b_list,
    PySem.W.mg_none_of KX GT b_max,
    PySem.W.mg_none_of KX GT b_min,
    PySem.W.mg_none_of KX GT b_range,
    PySem.W.mg_none_of KX GT b_str,
    PySem.W.mg_none_of KX GT b_tuple,
    PySem.W.mg_none_of KX GT b_zip,
    Tr.mkDef KX GT a0 l0 c0 k0 (fun _ _ _ _ _ _ us hl => match us, hl with | [_, _], _ => rfl),
    Tr.mkDef KX GT a1 l1 c1 k1 (fun _ _ _ _ _ _ us hl => match us, hl with | [_, _], _ => rfl),
    Tr.mkDef KX GT a2 l2 c2 k2 (fun _ _ _ _ _ _ us hl => match us, hl with | [_], _ => rfl),
    Tr.mkDef KX GT a3 l3 c3 k3 (fun _ _ _ _ _ _ us hl => match us, hl with | [_, _], _ => rfl),
    Tr.mkDef KX GT a4 l4 c4 k4 (fun _ _ _ _ _ _ us hl => match us, hl with | [_, _, _], _ => rfl),
    Tr.mkDef KX GT a5 l5 c5 k5 (fun _ _ _ _ _ _ us hl => match us, hl with | [_, _, _], _ => rfl),
    Tr.mkDef KX GT a6 l6 c6 k6 (fun _ _ _ _ _ _ us hl => match us, hl with | [_], _ => rfl),
    Tr.mkDef KX GT a7 l7 c7 k7 (fun _ _ _ _ _ _ us hl => match us, hl with | [_, _, _], _ => rfl),
    Tr.mkDef KX GT a8 l8 c8 k8 (fun _ _ _ _ _ _ us hl => match us, hl with | [_, _, _], _ => rfl),
    Tr.mkDef KX GT a9 l9 c9 k9 (fun _ _ _ _ _ _ us hl => match us, hl with | [_], _ => rfl),
    ⟨xsp, xtk⟩,
    ⟨PySem.W.mg_of KX GT xn0, xs0, xt0, xk0, xc0, xh0, xg0, xr0, xl0, xm0⟩,
    ⟨PySem.W.mg_of KX GT xn1, xs1, xt1, xk1, xc1, xh1, xg1, xr1, xl1, xm1⟩,
    ⟨PySem.W.mg_of KX GT xn2, xs2, xt2, xk2, xc2, xh2, xg2, xr2, xl2, xm2⟩,
    ⟨PySem.W.mg_of KX GT xn3, xs3, xt3, xk3, xc3, xh3, xg3, xr3, xl3, xm3⟩,
    ⟨PySem.W.mg_of KX GT xn4, xs4, xt4, xk4, xc4, xh4, xg4, xr4, xl4, xm4⟩,
    ⟨PySem.W.mg_of KX GT xn5, xs5, xt5, xk5, xc5, xh5, xg5, xr5, xl5, xm5⟩,
    ⟨PySem.W.mg_of KX GT xn6, xs6, xt6, xk6, xc6, xh6, xg6, xr6, xl6, xm6⟩,
    ⟨PySem.W.mg_of KX GT xn7, xs7, xt7, xk7, xc7, xh7, xg7, xr7, xl7, xm7⟩,
    ⟨PySem.W.mg_of KX GT xn8, xs8, xt8, xk8, xc8, xh8, xg8, xr8, xl8, xm8⟩,
    ⟨PySem.W.mg_of KX GT xn9, xs9, xt9, xk9, xc9, xh9, xg9, xr9, xl9, xm9⟩,
    ⟨PySem.W.mg_of KX GT xn10, xs10, xt10, xk10, xc10, xh10, xg10, xr10, xl10, xm10⟩,
    ⟨PySem.W.mg_of KX GT xn11, xs11, xt11, xk11, xc11, xh11, xg11, xr11, xl11, xm11⟩,
    ⟨PySem.W.mg_of KX GT xn12, xs12, xt12, xk12, xc12, xh12, xg12, xr12, xl12, xm12⟩,
    ⟨PySem.W.mg_of KX GT xn13, xs13, xt13, xk13, xc13, xh13, xg13, xr13, xl13, xm13⟩,
    ⟨PySem.W.mg_of KX GT xn14, xs14, xt14, xk14, xc14, xh14, xg14, xr14, xl14, xm14⟩,
    ⟨PySem.W.mg_of KX GT xn15, xs15, xt15, xk15, xc15, xh15, xg15, xr15, xl15, xm15⟩,
    ⟨PySem.W.mg_of KX GT xn16, xs16, xt16, xk16, xc16, xh16, xg16, xr16, xl16, xm16⟩,
    ⟨PySem.W.mg_of KX GT xn17, xs17, xt17, xk17, xc17, xh17, xg17, xr17, xl17, xm17⟩,
    ⟨PySem.W.mg_of KX GT xn18, xs18, xt18, xk18, xc18, xh18, xg18, xr18, xl18, xm18⟩,
    ⟨PySem.W.mg_of KX GT xn19, xs19, xt19, xk19, xc19, xh19, xg19, xr19, xl19, xm19⟩,
    ⟨PySem.W.mg_of KX GT xn20, xs20, xt20, xk20, xc20, xh20, xg20, xr20, xl20, xm20⟩,
    (fun j hj => by
      match j, hj with
      | 0, _ => exact ⟨_, (⟨PySem.W.mg_of KX GT xn0, xs0, xt0, xk0, xc0, xh0, xg0, xr0, xl0, xm0⟩ : XT K mg ⟨K, (fun k => ([xa0, xa1, xa2, xa3, xa4, xa5, xa6, xa7, xa8, xa9, xa10, xa11, xa12, xa13, xa14, xa15, xa16, xa17, xa18, xa19, xa20] : List Addr).getD k 0), (fun k => ([[], [], [], [], [], [], [], ["key"], ["key"], ["key"], ["key"], ["part"], ["part"], ["part"], ["index"], ["index"], ["why", "index"], ["part"], ["name"], ["limit"], ["limit"]] : List (List Str)).getD k []), fun _ => .non⟩ 0 "SheetError")⟩
      | 1, _ => exact ⟨_, (⟨PySem.W.mg_of KX GT xn1, xs1, xt1, xk1, xc1, xh1, xg1, xr1, xl1, xm1⟩ : XT K mg ⟨K, (fun k => ([xa0, xa1, xa2, xa3, xa4, xa5, xa6, xa7, xa8, xa9, xa10, xa11, xa12, xa13, xa14, xa15, xa16, xa17, xa18, xa19, xa20] : List Addr).getD k 0), (fun k => ([[], [], [], [], [], [], [], ["key"], ["key"], ["key"], ["key"], ["part"], ["part"], ["part"], ["index"], ["index"], ["why", "index"], ["part"], ["name"], ["limit"], ["limit"]] : List (List Str)).getD k []), fun _ => .non⟩ 1 "NoColumns")⟩
      | 2, _ => exact ⟨_, (⟨PySem.W.mg_of KX GT xn2, xs2, xt2, xk2, xc2, xh2, xg2, xr2, xl2, xm2⟩ : XT K mg ⟨K, (fun k => ([xa0, xa1, xa2, xa3, xa4, xa5, xa6, xa7, xa8, xa9, xa10, xa11, xa12, xa13, xa14, xa15, xa16, xa17, xa18, xa19, xa20] : List Addr).getD k 0), (fun k => ([[], [], [], [], [], [], [], ["key"], ["key"], ["key"], ["key"], ["part"], ["part"], ["part"], ["index"], ["index"], ["why", "index"], ["part"], ["name"], ["limit"], ["limit"]] : List (List Str)).getD k []), fun _ => .non⟩ 2 "NotNeutral")⟩
      | 3, _ => exact ⟨_, (⟨PySem.W.mg_of KX GT xn3, xs3, xt3, xk3, xc3, xh3, xg3, xr3, xl3, xm3⟩ : XT K mg ⟨K, (fun k => ([xa0, xa1, xa2, xa3, xa4, xa5, xa6, xa7, xa8, xa9, xa10, xa11, xa12, xa13, xa14, xa15, xa16, xa17, xa18, xa19, xa20] : List Addr).getD k 0), (fun k => ([[], [], [], [], [], [], [], ["key"], ["key"], ["key"], ["key"], ["part"], ["part"], ["part"], ["index"], ["index"], ["why", "index"], ["part"], ["name"], ["limit"], ["limit"]] : List (List Str)).getD k []), fun _ => .non⟩ 3 "NotKeyed")⟩
      | 4, _ => exact ⟨_, (⟨PySem.W.mg_of KX GT xn4, xs4, xt4, xk4, xc4, xh4, xg4, xr4, xl4, xm4⟩ : XT K mg ⟨K, (fun k => ([xa0, xa1, xa2, xa3, xa4, xa5, xa6, xa7, xa8, xa9, xa10, xa11, xa12, xa13, xa14, xa15, xa16, xa17, xa18, xa19, xa20] : List Addr).getD k 0), (fun k => ([[], [], [], [], [], [], [], ["key"], ["key"], ["key"], ["key"], ["part"], ["part"], ["part"], ["index"], ["index"], ["why", "index"], ["part"], ["name"], ["limit"], ["limit"]] : List (List Str)).getD k []), fun _ => .non⟩ 4 "NotSame")⟩
      | 5, _ => exact ⟨_, (⟨PySem.W.mg_of KX GT xn5, xs5, xt5, xk5, xc5, xh5, xg5, xr5, xl5, xm5⟩ : XT K mg ⟨K, (fun k => ([xa0, xa1, xa2, xa3, xa4, xa5, xa6, xa7, xa8, xa9, xa10, xa11, xa12, xa13, xa14, xa15, xa16, xa17, xa18, xa19, xa20] : List Addr).getD k 0), (fun k => ([[], [], [], [], [], [], [], ["key"], ["key"], ["key"], ["key"], ["part"], ["part"], ["part"], ["index"], ["index"], ["why", "index"], ["part"], ["name"], ["limit"], ["limit"]] : List (List Str)).getD k []), fun _ => .non⟩ 5 "NoCommand")⟩
      | 6, _ => exact ⟨_, (⟨PySem.W.mg_of KX GT xn6, xs6, xt6, xk6, xc6, xh6, xg6, xr6, xl6, xm6⟩ : XT K mg ⟨K, (fun k => ([xa0, xa1, xa2, xa3, xa4, xa5, xa6, xa7, xa8, xa9, xa10, xa11, xa12, xa13, xa14, xa15, xa16, xa17, xa18, xa19, xa20] : List Addr).getD k 0), (fun k => ([[], [], [], [], [], [], [], ["key"], ["key"], ["key"], ["key"], ["part"], ["part"], ["part"], ["index"], ["index"], ["why", "index"], ["part"], ["name"], ["limit"], ["limit"]] : List (List Str)).getD k []), fun _ => .non⟩ 6 "NothingToUndo")⟩
      | 7, _ => exact ⟨_, (⟨PySem.W.mg_of KX GT xn7, xs7, xt7, xk7, xc7, xh7, xg7, xr7, xl7, xm7⟩ : XT K mg ⟨K, (fun k => ([xa0, xa1, xa2, xa3, xa4, xa5, xa6, xa7, xa8, xa9, xa10, xa11, xa12, xa13, xa14, xa15, xa16, xa17, xa18, xa19, xa20] : List Addr).getD k 0), (fun k => ([[], [], [], [], [], [], [], ["key"], ["key"], ["key"], ["key"], ["part"], ["part"], ["part"], ["index"], ["index"], ["why", "index"], ["part"], ["name"], ["limit"], ["limit"]] : List (List Str)).getD k []), fun _ => .non⟩ 7 "NoKey")⟩
      | 8, _ => exact ⟨_, (⟨PySem.W.mg_of KX GT xn8, xs8, xt8, xk8, xc8, xh8, xg8, xr8, xl8, xm8⟩ : XT K mg ⟨K, (fun k => ([xa0, xa1, xa2, xa3, xa4, xa5, xa6, xa7, xa8, xa9, xa10, xa11, xa12, xa13, xa14, xa15, xa16, xa17, xa18, xa19, xa20] : List Addr).getD k 0), (fun k => ([[], [], [], [], [], [], [], ["key"], ["key"], ["key"], ["key"], ["part"], ["part"], ["part"], ["index"], ["index"], ["why", "index"], ["part"], ["name"], ["limit"], ["limit"]] : List (List Str)).getD k []), fun _ => .non⟩ 8 "NoRow")⟩
      | 9, _ => exact ⟨_, (⟨PySem.W.mg_of KX GT xn9, xs9, xt9, xk9, xc9, xh9, xg9, xr9, xl9, xm9⟩ : XT K mg ⟨K, (fun k => ([xa0, xa1, xa2, xa3, xa4, xa5, xa6, xa7, xa8, xa9, xa10, xa11, xa12, xa13, xa14, xa15, xa16, xa17, xa18, xa19, xa20] : List Addr).getD k 0), (fun k => ([[], [], [], [], [], [], [], ["key"], ["key"], ["key"], ["key"], ["part"], ["part"], ["part"], ["index"], ["index"], ["why", "index"], ["part"], ["name"], ["limit"], ["limit"]] : List (List Str)).getD k []), fun _ => .non⟩ 9 "Missing")⟩
      | 10, _ => exact ⟨_, (⟨PySem.W.mg_of KX GT xn10, xs10, xt10, xk10, xc10, xh10, xg10, xr10, xl10, xm10⟩ : XT K mg ⟨K, (fun k => ([xa0, xa1, xa2, xa3, xa4, xa5, xa6, xa7, xa8, xa9, xa10, xa11, xa12, xa13, xa14, xa15, xa16, xa17, xa18, xa19, xa20] : List Addr).getD k 0), (fun k => ([[], [], [], [], [], [], [], ["key"], ["key"], ["key"], ["key"], ["part"], ["part"], ["part"], ["index"], ["index"], ["why", "index"], ["part"], ["name"], ["limit"], ["limit"]] : List (List Str)).getD k []), fun _ => .non⟩ 10 "Clash")⟩
      | 11, _ => exact ⟨_, (⟨PySem.W.mg_of KX GT xn11, xs11, xt11, xk11, xc11, xh11, xg11, xr11, xl11, xm11⟩ : XT K mg ⟨K, (fun k => ([xa0, xa1, xa2, xa3, xa4, xa5, xa6, xa7, xa8, xa9, xa10, xa11, xa12, xa13, xa14, xa15, xa16, xa17, xa18, xa19, xa20] : List Addr).getD k 0), (fun k => ([[], [], [], [], [], [], [], ["key"], ["key"], ["key"], ["key"], ["part"], ["part"], ["part"], ["index"], ["index"], ["why", "index"], ["part"], ["name"], ["limit"], ["limit"]] : List (List Str)).getD k []), fun _ => .non⟩ 11 "NoSending")⟩
      | 12, _ => exact ⟨_, (⟨PySem.W.mg_of KX GT xn12, xs12, xt12, xk12, xc12, xh12, xg12, xr12, xl12, xm12⟩ : XT K mg ⟨K, (fun k => ([xa0, xa1, xa2, xa3, xa4, xa5, xa6, xa7, xa8, xa9, xa10, xa11, xa12, xa13, xa14, xa15, xa16, xa17, xa18, xa19, xa20] : List Addr).getD k 0), (fun k => ([[], [], [], [], [], [], [], ["key"], ["key"], ["key"], ["key"], ["part"], ["part"], ["part"], ["index"], ["index"], ["why", "index"], ["part"], ["name"], ["limit"], ["limit"]] : List (List Str)).getD k []), fun _ => .non⟩ 12 "NoJoining")⟩
      | 13, _ => exact ⟨_, (⟨PySem.W.mg_of KX GT xn13, xs13, xt13, xk13, xc13, xh13, xg13, xr13, xl13, xm13⟩ : XT K mg ⟨K, (fun k => ([xa0, xa1, xa2, xa3, xa4, xa5, xa6, xa7, xa8, xa9, xa10, xa11, xa12, xa13, xa14, xa15, xa16, xa17, xa18, xa19, xa20] : List Addr).getD k 0), (fun k => ([[], [], [], [], [], [], [], ["key"], ["key"], ["key"], ["key"], ["part"], ["part"], ["part"], ["index"], ["index"], ["why", "index"], ["part"], ["name"], ["limit"], ["limit"]] : List (List Str)).getD k []), fun _ => .non⟩ 13 "NoMeanwhile")⟩
      | 14, _ => exact ⟨_, (⟨PySem.W.mg_of KX GT xn14, xs14, xt14, xk14, xc14, xh14, xg14, xr14, xl14, xm14⟩ : XT K mg ⟨K, (fun k => ([xa0, xa1, xa2, xa3, xa4, xa5, xa6, xa7, xa8, xa9, xa10, xa11, xa12, xa13, xa14, xa15, xa16, xa17, xa18, xa19, xa20] : List Addr).getD k 0), (fun k => ([[], [], [], [], [], [], [], ["key"], ["key"], ["key"], ["key"], ["part"], ["part"], ["part"], ["index"], ["index"], ["why", "index"], ["part"], ["name"], ["limit"], ["limit"]] : List (List Str)).getD k []), fun _ => .non⟩ 14 "NoLine")⟩
      | 15, _ => exact ⟨_, (⟨PySem.W.mg_of KX GT xn15, xs15, xt15, xk15, xc15, xh15, xg15, xr15, xl15, xm15⟩ : XT K mg ⟨K, (fun k => ([xa0, xa1, xa2, xa3, xa4, xa5, xa6, xa7, xa8, xa9, xa10, xa11, xa12, xa13, xa14, xa15, xa16, xa17, xa18, xa19, xa20] : List Addr).getD k 0), (fun k => ([[], [], [], [], [], [], [], ["key"], ["key"], ["key"], ["key"], ["part"], ["part"], ["part"], ["index"], ["index"], ["why", "index"], ["part"], ["name"], ["limit"], ["limit"]] : List (List Str)).getD k []), fun _ => .non⟩ 15 "NoCells")⟩
      | 16, _ => exact ⟨_, (⟨PySem.W.mg_of KX GT xn16, xs16, xt16, xk16, xc16, xh16, xg16, xr16, xl16, xm16⟩ : XT K mg ⟨K, (fun k => ([xa0, xa1, xa2, xa3, xa4, xa5, xa6, xa7, xa8, xa9, xa10, xa11, xa12, xa13, xa14, xa15, xa16, xa17, xa18, xa19, xa20] : List Addr).getD k 0), (fun k => ([[], [], [], [], [], [], [], ["key"], ["key"], ["key"], ["key"], ["part"], ["part"], ["part"], ["index"], ["index"], ["why", "index"], ["part"], ["name"], ["limit"], ["limit"]] : List (List Str)).getD k []), fun _ => .non⟩ 16 "Refused")⟩
      | 17, _ => exact ⟨_, (⟨PySem.W.mg_of KX GT xn17, xs17, xt17, xk17, xc17, xh17, xg17, xr17, xl17, xm17⟩ : XT K mg ⟨K, (fun k => ([xa0, xa1, xa2, xa3, xa4, xa5, xa6, xa7, xa8, xa9, xa10, xa11, xa12, xa13, xa14, xa15, xa16, xa17, xa18, xa19, xa20] : List Addr).getD k 0), (fun k => ([[], [], [], [], [], [], [], ["key"], ["key"], ["key"], ["key"], ["part"], ["part"], ["part"], ["index"], ["index"], ["why", "index"], ["part"], ["name"], ["limit"], ["limit"]] : List (List Str)).getD k []), fun _ => .non⟩ 17 "NoText")⟩
      | 18, _ => exact ⟨_, (⟨PySem.W.mg_of KX GT xn18, xs18, xt18, xk18, xc18, xh18, xg18, xr18, xl18, xm18⟩ : XT K mg ⟨K, (fun k => ([xa0, xa1, xa2, xa3, xa4, xa5, xa6, xa7, xa8, xa9, xa10, xa11, xa12, xa13, xa14, xa15, xa16, xa17, xa18, xa19, xa20] : List Addr).getD k 0), (fun k => ([[], [], [], [], [], [], [], ["key"], ["key"], ["key"], ["key"], ["part"], ["part"], ["part"], ["index"], ["index"], ["why", "index"], ["part"], ["name"], ["limit"], ["limit"]] : List (List Str)).getD k []), fun _ => .non⟩ 18 "NoName")⟩
      | 19, _ => exact ⟨_, (⟨PySem.W.mg_of KX GT xn19, xs19, xt19, xk19, xc19, xh19, xg19, xr19, xl19, xm19⟩ : XT K mg ⟨K, (fun k => ([xa0, xa1, xa2, xa3, xa4, xa5, xa6, xa7, xa8, xa9, xa10, xa11, xa12, xa13, xa14, xa15, xa16, xa17, xa18, xa19, xa20] : List Addr).getD k 0), (fun k => ([[], [], [], [], [], [], [], ["key"], ["key"], ["key"], ["key"], ["part"], ["part"], ["part"], ["index"], ["index"], ["why", "index"], ["part"], ["name"], ["limit"], ["limit"]] : List (List Str)).getD k []), fun _ => .non⟩ 19 "NoLimit")⟩
      | 20, _ => exact ⟨_, (⟨PySem.W.mg_of KX GT xn20, xs20, xt20, xk20, xc20, xh20, xg20, xr20, xl20, xm20⟩ : XT K mg ⟨K, (fun k => ([xa0, xa1, xa2, xa3, xa4, xa5, xa6, xa7, xa8, xa9, xa10, xa11, xa12, xa13, xa14, xa15, xa16, xa17, xa18, xa19, xa20] : List Addr).getD k 0), (fun k => ([[], [], [], [], [], [], [], ["key"], ["key"], ["key"], ["key"], ["part"], ["part"], ["part"], ["index"], ["index"], ["why", "index"], ["part"], ["name"], ["limit"], ["limit"]] : List (List Str)).getD k []), fun _ => .non⟩ 20 "Full")⟩
      | z + 21, h => omega),
    xq0,
    xq1,
    xq2,
    xq3,
    xq4,
    xq5,
    xq6,
    rfl,
    ⟨⟨_, _, _, _, _, _, _, _, _, _, _, _, _, _, _, xo7, xv7⟩, xd7, xs7, xt7, xk7⟩,
    xf7_key,
    ⟨fi7, _, ya7, yt7, fun_mk yl7 yc7 yk7, (fun_mk (st := (inClass (top 8) 0)) yl7 yc7 yk7).binds fun _ _ _ _ _ _ us hl => match us, hl with | [_, _], _ => rfl⟩,
    rfl,
    ⟨⟨_, _, _, _, _, _, _, _, _, _, _, _, _, _, _, xo8, xv8⟩, xd8, xs8, xt8, xk8⟩,
    xf8_key,
    ⟨fi8, _, ya8, yt8, fun_mk yl8 yc8 yk8, (fun_mk (st := (inClass (top 9) 0)) yl8 yc8 yk8).binds fun _ _ _ _ _ _ us hl => match us, hl with | [_, _], _ => rfl⟩,
    rfl,
    ⟨⟨_, _, _, _, _, _, _, _, _, _, _, _, _, _, _, xo9, xv9⟩, xd9, xs9, xt9, xk9⟩,
    xf9_key,
    ⟨fi9, _, ya9, yt9, fun_mk yl9 yc9 yk9, (fun_mk (st := (inClass (top 10) 0)) yl9 yc9 yk9).binds fun _ _ _ _ _ _ us hl => match us, hl with | [_, _], _ => rfl⟩,
    rfl,
    ⟨⟨_, _, _, _, _, _, _, _, _, _, _, _, _, _, _, xo10, xv10⟩, xd10, xs10, xt10, xk10⟩,
    xf10_key,
    ⟨fi10, _, ya10, yt10, fun_mk yl10 yc10 yk10, (fun_mk (st := (inClass (top 11) 0)) yl10 yc10 yk10).binds fun _ _ _ _ _ _ us hl => match us, hl with | [_, _], _ => rfl⟩,
    rfl,
    ⟨⟨_, _, _, _, _, _, _, _, _, _, _, _, _, _, _, xo11, xv11⟩, xd11, xs11, xt11, xk11⟩,
    xf11_part,
    ⟨fi11, _, ya11, yt11, fun_mk yl11 yc11 yk11, (fun_mk (st := (inClass (top 12) 0)) yl11 yc11 yk11).binds fun _ _ _ _ _ _ us hl => match us, hl with | [_, _], _ => rfl⟩,
    rfl,
    ⟨⟨_, _, _, _, _, _, _, _, _, _, _, _, _, _, _, xo12, xv12⟩, xd12, xs12, xt12, xk12⟩,
    xf12_part,
    ⟨fi12, _, ya12, yt12, fun_mk yl12 yc12 yk12, (fun_mk (st := (inClass (top 13) 0)) yl12 yc12 yk12).binds fun _ _ _ _ _ _ us hl => match us, hl with | [_, _], _ => rfl⟩,
    rfl,
    ⟨⟨_, _, _, _, _, _, _, _, _, _, _, _, _, _, _, xo13, xv13⟩, xd13, xs13, xt13, xk13⟩,
    xf13_part,
    ⟨fi13, _, ya13, yt13, fun_mk yl13 yc13 yk13, (fun_mk (st := (inClass (top 14) 0)) yl13 yc13 yk13).binds fun _ _ _ _ _ _ us hl => match us, hl with | [_, _], _ => rfl⟩,
    rfl,
    ⟨⟨_, _, _, _, _, _, _, _, _, _, _, _, _, _, _, xo14, xv14⟩, xd14, xs14, xt14, xk14⟩,
    xf14_index,
    ⟨fi14, _, ya14, yt14, fun_mk yl14 yc14 yk14, (fun_mk (st := (inClass (top 15) 0)) yl14 yc14 yk14).binds fun _ _ _ _ _ _ us hl => match us, hl with | [_, _], _ => rfl⟩,
    rfl,
    ⟨⟨_, _, _, _, _, _, _, _, _, _, _, _, _, _, _, xo15, xv15⟩, xd15, xs15, xt15, xk15⟩,
    xf15_index,
    ⟨fi15, _, ya15, yt15, fun_mk yl15 yc15 yk15, (fun_mk (st := (inClass (top 16) 0)) yl15 yc15 yk15).binds fun _ _ _ _ _ _ us hl => match us, hl with | [_, _], _ => rfl⟩,
    rfl,
    ⟨⟨_, _, _, _, _, _, _, _, _, _, _, _, _, _, _, xo16, xv16⟩, xd16, xs16, xt16, xk16⟩,
    xf16_index,
    xf16_why,
    ⟨fi16, _, ya16, yt16, fun_mk yl16 yc16 yk16, (fun_mk (st := (inClass (top 17) 0)) yl16 yc16 yk16).binds fun _ _ _ _ _ _ us hl => match us, hl with | [_, _, _], _ => rfl⟩,
    rfl,
    ⟨⟨_, _, _, _, _, _, _, _, _, _, _, _, _, _, _, xo17, xv17⟩, xd17, xs17, xt17, xk17⟩,
    xf17_part,
    ⟨fi17, _, ya17, yt17, fun_mk yl17 yc17 yk17, (fun_mk (st := (inClass (top 18) 0)) yl17 yc17 yk17).binds fun _ _ _ _ _ _ us hl => match us, hl with | [_, _], _ => rfl⟩,
    rfl,
    ⟨⟨_, _, _, _, _, _, _, _, _, _, _, _, _, _, _, xo18, xv18⟩, xd18, xs18, xt18, xk18⟩,
    xf18_name,
    ⟨fi18, _, ya18, yt18, fun_mk yl18 yc18 yk18, (fun_mk (st := (inClass (top 19) 0)) yl18 yc18 yk18).binds fun _ _ _ _ _ _ us hl => match us, hl with | [_, _], _ => rfl⟩,
    rfl,
    ⟨⟨_, _, _, _, _, _, _, _, _, _, _, _, _, _, _, xo19, xv19⟩, xd19, xs19, xt19, xk19⟩,
    xf19_limit,
    ⟨fi19, _, ya19, yt19, fun_mk yl19 yc19 yk19, (fun_mk (st := (inClass (top 20) 0)) yl19 yc19 yk19).binds fun _ _ _ _ _ _ us hl => match us, hl with | [_, _], _ => rfl⟩,
    rfl,
    ⟨⟨_, _, _, _, _, _, _, _, _, _, _, _, _, _, _, xo20, xv20⟩, xd20, xs20, xt20, xk20⟩,
    xf20_limit,
    ⟨fi20, _, ya20, yt20, fun_mk yl20 yc20 yk20, (fun_mk (st := (inClass (top 21) 0)) yl20 yc20 yk20).binds fun _ _ _ _ _ _ us hl => match us, hl with | [_, _], _ => rfl⟩,
    (fun j hj => by
      match j, hj with
      | 0, _ => exact xj0_10
      | 1, _ => exact xj1_10
      | 2, _ => exact xj2_10
      | 3, _ => exact xj3_10
      | 4, _ => exact xj4_10
      | 5, _ => exact xj5_10
      | 6, _ => exact xj6_10
      | 7, _ => exact xj7_10
      | 8, _ => exact xj8_10
      | 9, _ => exact xj9_10
      | 10, _ => exact xj10_10
      | 11, _ => exact xj11_10
      | 12, _ => exact xj12_10
      | 13, _ => exact xj13_10
      | 14, _ => exact xj14_10
      | 15, _ => exact xj15_10
      | 16, _ => exact xj16_10
      | 17, _ => exact xj17_10
      | 18, _ => exact xj18_10
      | 19, _ => exact xj19_10
      | 20, _ => exact xj20_10
      | z + 21, h => omega),
    (fun j hj => by
      match j, hj with
      | 0, _ => exact xj0_20
      | 1, _ => exact xj1_20
      | 2, _ => exact xj2_20
      | 3, _ => exact xj3_20
      | 4, _ => exact xj4_20
      | 5, _ => exact xj5_20
      | 6, _ => exact xj6_20
      | 7, _ => exact xj7_20
      | 8, _ => exact xj8_20
      | 9, _ => exact xj9_20
      | 10, _ => exact xj10_20
      | 11, _ => exact xj11_20
      | 12, _ => exact xj12_20
      | 13, _ => exact xj13_20
      | 14, _ => exact xj14_20
      | 15, _ => exact xj15_20
      | 16, _ => exact xj16_20
      | 17, _ => exact xj17_20
      | 18, _ => exact xj18_20
      | 19, _ => exact xj19_20
      | 20, _ => exact xj20_20
      | z + 21, h => omega),
    (fun j hj => by
      match j, hj with
      | 0, _ => exact xj0_9
      | 1, _ => exact xj1_9
      | 2, _ => exact xj2_9
      | 3, _ => exact xj3_9
      | 4, _ => exact xj4_9
      | 5, _ => exact xj5_9
      | 6, _ => exact xj6_9
      | 7, _ => exact xj7_9
      | 8, _ => exact xj8_9
      | 9, _ => exact xj9_9
      | 10, _ => exact xj10_9
      | 11, _ => exact xj11_9
      | 12, _ => exact xj12_9
      | 13, _ => exact xj13_9
      | 14, _ => exact xj14_9
      | 15, _ => exact xj15_9
      | 16, _ => exact xj16_9
      | 17, _ => exact xj17_9
      | 18, _ => exact xj18_9
      | 19, _ => exact xj19_9
      | 20, _ => exact xj20_9
      | z + 21, h => omega),
    (fun j hj => by
      match j, hj with
      | 0, _ => exact xj0_15
      | 1, _ => exact xj1_15
      | 2, _ => exact xj2_15
      | 3, _ => exact xj3_15
      | 4, _ => exact xj4_15
      | 5, _ => exact xj5_15
      | 6, _ => exact xj6_15
      | 7, _ => exact xj7_15
      | 8, _ => exact xj8_15
      | 9, _ => exact xj9_15
      | 10, _ => exact xj10_15
      | 11, _ => exact xj11_15
      | 12, _ => exact xj12_15
      | 13, _ => exact xj13_15
      | 14, _ => exact xj14_15
      | 15, _ => exact xj15_15
      | 16, _ => exact xj16_15
      | 17, _ => exact xj17_15
      | 18, _ => exact xj18_15
      | 19, _ => exact xj19_15
      | 20, _ => exact xj20_15
      | z + 21, h => omega),
    (fun j hj => by
      match j, hj with
      | 0, _ => exact xj0_1
      | 1, _ => exact xj1_1
      | 2, _ => exact xj2_1
      | 3, _ => exact xj3_1
      | 4, _ => exact xj4_1
      | 5, _ => exact xj5_1
      | 6, _ => exact xj6_1
      | 7, _ => exact xj7_1
      | 8, _ => exact xj8_1
      | 9, _ => exact xj9_1
      | 10, _ => exact xj10_1
      | 11, _ => exact xj11_1
      | 12, _ => exact xj12_1
      | 13, _ => exact xj13_1
      | 14, _ => exact xj14_1
      | 15, _ => exact xj15_1
      | 16, _ => exact xj16_1
      | 17, _ => exact xj17_1
      | 18, _ => exact xj18_1
      | 19, _ => exact xj19_1
      | 20, _ => exact xj20_1
      | z + 21, h => omega),
    (fun j hj => by
      match j, hj with
      | 0, _ => exact xj0_5
      | 1, _ => exact xj1_5
      | 2, _ => exact xj2_5
      | 3, _ => exact xj3_5
      | 4, _ => exact xj4_5
      | 5, _ => exact xj5_5
      | 6, _ => exact xj6_5
      | 7, _ => exact xj7_5
      | 8, _ => exact xj8_5
      | 9, _ => exact xj9_5
      | 10, _ => exact xj10_5
      | 11, _ => exact xj11_5
      | 12, _ => exact xj12_5
      | 13, _ => exact xj13_5
      | 14, _ => exact xj14_5
      | 15, _ => exact xj15_5
      | 16, _ => exact xj16_5
      | 17, _ => exact xj17_5
      | 18, _ => exact xj18_5
      | 19, _ => exact xj19_5
      | 20, _ => exact xj20_5
      | z + 21, h => omega),
    (fun j hj => by
      match j, hj with
      | 0, _ => exact xj0_12
      | 1, _ => exact xj1_12
      | 2, _ => exact xj2_12
      | 3, _ => exact xj3_12
      | 4, _ => exact xj4_12
      | 5, _ => exact xj5_12
      | 6, _ => exact xj6_12
      | 7, _ => exact xj7_12
      | 8, _ => exact xj8_12
      | 9, _ => exact xj9_12
      | 10, _ => exact xj10_12
      | 11, _ => exact xj11_12
      | 12, _ => exact xj12_12
      | 13, _ => exact xj13_12
      | 14, _ => exact xj14_12
      | 15, _ => exact xj15_12
      | 16, _ => exact xj16_12
      | 17, _ => exact xj17_12
      | 18, _ => exact xj18_12
      | 19, _ => exact xj19_12
      | 20, _ => exact xj20_12
      | z + 21, h => omega),
    (fun j hj => by
      match j, hj with
      | 0, _ => exact xj0_7
      | 1, _ => exact xj1_7
      | 2, _ => exact xj2_7
      | 3, _ => exact xj3_7
      | 4, _ => exact xj4_7
      | 5, _ => exact xj5_7
      | 6, _ => exact xj6_7
      | 7, _ => exact xj7_7
      | 8, _ => exact xj8_7
      | 9, _ => exact xj9_7
      | 10, _ => exact xj10_7
      | 11, _ => exact xj11_7
      | 12, _ => exact xj12_7
      | 13, _ => exact xj13_7
      | 14, _ => exact xj14_7
      | 15, _ => exact xj15_7
      | 16, _ => exact xj16_7
      | 17, _ => exact xj17_7
      | 18, _ => exact xj18_7
      | 19, _ => exact xj19_7
      | 20, _ => exact xj20_7
      | z + 21, h => omega),
    (fun j hj => by
      match j, hj with
      | 0, _ => exact xj0_19
      | 1, _ => exact xj1_19
      | 2, _ => exact xj2_19
      | 3, _ => exact xj3_19
      | 4, _ => exact xj4_19
      | 5, _ => exact xj5_19
      | 6, _ => exact xj6_19
      | 7, _ => exact xj7_19
      | 8, _ => exact xj8_19
      | 9, _ => exact xj9_19
      | 10, _ => exact xj10_19
      | 11, _ => exact xj11_19
      | 12, _ => exact xj12_19
      | 13, _ => exact xj13_19
      | 14, _ => exact xj14_19
      | 15, _ => exact xj15_19
      | 16, _ => exact xj16_19
      | 17, _ => exact xj17_19
      | 18, _ => exact xj18_19
      | 19, _ => exact xj19_19
      | 20, _ => exact xj20_19
      | z + 21, h => omega),
    (fun j hj => by
      match j, hj with
      | 0, _ => exact xj0_14
      | 1, _ => exact xj1_14
      | 2, _ => exact xj2_14
      | 3, _ => exact xj3_14
      | 4, _ => exact xj4_14
      | 5, _ => exact xj5_14
      | 6, _ => exact xj6_14
      | 7, _ => exact xj7_14
      | 8, _ => exact xj8_14
      | 9, _ => exact xj9_14
      | 10, _ => exact xj10_14
      | 11, _ => exact xj11_14
      | 12, _ => exact xj12_14
      | 13, _ => exact xj13_14
      | 14, _ => exact xj14_14
      | 15, _ => exact xj15_14
      | 16, _ => exact xj16_14
      | 17, _ => exact xj17_14
      | 18, _ => exact xj18_14
      | 19, _ => exact xj19_14
      | 20, _ => exact xj20_14
      | z + 21, h => omega),
    (fun j hj => by
      match j, hj with
      | 0, _ => exact xj0_13
      | 1, _ => exact xj1_13
      | 2, _ => exact xj2_13
      | 3, _ => exact xj3_13
      | 4, _ => exact xj4_13
      | 5, _ => exact xj5_13
      | 6, _ => exact xj6_13
      | 7, _ => exact xj7_13
      | 8, _ => exact xj8_13
      | 9, _ => exact xj9_13
      | 10, _ => exact xj10_13
      | 11, _ => exact xj11_13
      | 12, _ => exact xj12_13
      | 13, _ => exact xj13_13
      | 14, _ => exact xj14_13
      | 15, _ => exact xj15_13
      | 16, _ => exact xj16_13
      | 17, _ => exact xj17_13
      | 18, _ => exact xj18_13
      | 19, _ => exact xj19_13
      | 20, _ => exact xj20_13
      | z + 21, h => omega),
    (fun j hj => by
      match j, hj with
      | 0, _ => exact xj0_18
      | 1, _ => exact xj1_18
      | 2, _ => exact xj2_18
      | 3, _ => exact xj3_18
      | 4, _ => exact xj4_18
      | 5, _ => exact xj5_18
      | 6, _ => exact xj6_18
      | 7, _ => exact xj7_18
      | 8, _ => exact xj8_18
      | 9, _ => exact xj9_18
      | 10, _ => exact xj10_18
      | 11, _ => exact xj11_18
      | 12, _ => exact xj12_18
      | 13, _ => exact xj13_18
      | 14, _ => exact xj14_18
      | 15, _ => exact xj15_18
      | 16, _ => exact xj16_18
      | 17, _ => exact xj17_18
      | 18, _ => exact xj18_18
      | 19, _ => exact xj19_18
      | 20, _ => exact xj20_18
      | z + 21, h => omega),
    (fun j hj => by
      match j, hj with
      | 0, _ => exact xj0_8
      | 1, _ => exact xj1_8
      | 2, _ => exact xj2_8
      | 3, _ => exact xj3_8
      | 4, _ => exact xj4_8
      | 5, _ => exact xj5_8
      | 6, _ => exact xj6_8
      | 7, _ => exact xj7_8
      | 8, _ => exact xj8_8
      | 9, _ => exact xj9_8
      | 10, _ => exact xj10_8
      | 11, _ => exact xj11_8
      | 12, _ => exact xj12_8
      | 13, _ => exact xj13_8
      | 14, _ => exact xj14_8
      | 15, _ => exact xj15_8
      | 16, _ => exact xj16_8
      | 17, _ => exact xj17_8
      | 18, _ => exact xj18_8
      | 19, _ => exact xj19_8
      | 20, _ => exact xj20_8
      | z + 21, h => omega),
    (fun j hj => by
      match j, hj with
      | 0, _ => exact xj0_11
      | 1, _ => exact xj1_11
      | 2, _ => exact xj2_11
      | 3, _ => exact xj3_11
      | 4, _ => exact xj4_11
      | 5, _ => exact xj5_11
      | 6, _ => exact xj6_11
      | 7, _ => exact xj7_11
      | 8, _ => exact xj8_11
      | 9, _ => exact xj9_11
      | 10, _ => exact xj10_11
      | 11, _ => exact xj11_11
      | 12, _ => exact xj12_11
      | 13, _ => exact xj13_11
      | 14, _ => exact xj14_11
      | 15, _ => exact xj15_11
      | 16, _ => exact xj16_11
      | 17, _ => exact xj17_11
      | 18, _ => exact xj18_11
      | 19, _ => exact xj19_11
      | 20, _ => exact xj20_11
      | z + 21, h => omega),
    (fun j hj => by
      match j, hj with
      | 0, _ => exact xj0_17
      | 1, _ => exact xj1_17
      | 2, _ => exact xj2_17
      | 3, _ => exact xj3_17
      | 4, _ => exact xj4_17
      | 5, _ => exact xj5_17
      | 6, _ => exact xj6_17
      | 7, _ => exact xj7_17
      | 8, _ => exact xj8_17
      | 9, _ => exact xj9_17
      | 10, _ => exact xj10_17
      | 11, _ => exact xj11_17
      | 12, _ => exact xj12_17
      | 13, _ => exact xj13_17
      | 14, _ => exact xj14_17
      | 15, _ => exact xj15_17
      | 16, _ => exact xj16_17
      | 17, _ => exact xj17_17
      | 18, _ => exact xj18_17
      | 19, _ => exact xj19_17
      | 20, _ => exact xj20_17
      | z + 21, h => omega),
    (fun j hj => by
      match j, hj with
      | 0, _ => exact xj0_3
      | 1, _ => exact xj1_3
      | 2, _ => exact xj2_3
      | 3, _ => exact xj3_3
      | 4, _ => exact xj4_3
      | 5, _ => exact xj5_3
      | 6, _ => exact xj6_3
      | 7, _ => exact xj7_3
      | 8, _ => exact xj8_3
      | 9, _ => exact xj9_3
      | 10, _ => exact xj10_3
      | 11, _ => exact xj11_3
      | 12, _ => exact xj12_3
      | 13, _ => exact xj13_3
      | 14, _ => exact xj14_3
      | 15, _ => exact xj15_3
      | 16, _ => exact xj16_3
      | 17, _ => exact xj17_3
      | 18, _ => exact xj18_3
      | 19, _ => exact xj19_3
      | 20, _ => exact xj20_3
      | z + 21, h => omega),
    (fun j hj => by
      match j, hj with
      | 0, _ => exact xj0_2
      | 1, _ => exact xj1_2
      | 2, _ => exact xj2_2
      | 3, _ => exact xj3_2
      | 4, _ => exact xj4_2
      | 5, _ => exact xj5_2
      | 6, _ => exact xj6_2
      | 7, _ => exact xj7_2
      | 8, _ => exact xj8_2
      | 9, _ => exact xj9_2
      | 10, _ => exact xj10_2
      | 11, _ => exact xj11_2
      | 12, _ => exact xj12_2
      | 13, _ => exact xj13_2
      | 14, _ => exact xj14_2
      | 15, _ => exact xj15_2
      | 16, _ => exact xj16_2
      | 17, _ => exact xj17_2
      | 18, _ => exact xj18_2
      | 19, _ => exact xj19_2
      | 20, _ => exact xj20_2
      | z + 21, h => omega),
    (fun j hj => by
      match j, hj with
      | 0, _ => exact xj0_4
      | 1, _ => exact xj1_4
      | 2, _ => exact xj2_4
      | 3, _ => exact xj3_4
      | 4, _ => exact xj4_4
      | 5, _ => exact xj5_4
      | 6, _ => exact xj6_4
      | 7, _ => exact xj7_4
      | 8, _ => exact xj8_4
      | 9, _ => exact xj9_4
      | 10, _ => exact xj10_4
      | 11, _ => exact xj11_4
      | 12, _ => exact xj12_4
      | 13, _ => exact xj13_4
      | 14, _ => exact xj14_4
      | 15, _ => exact xj15_4
      | 16, _ => exact xj16_4
      | 17, _ => exact xj17_4
      | 18, _ => exact xj18_4
      | 19, _ => exact xj19_4
      | 20, _ => exact xj20_4
      | z + 21, h => omega),
    (fun j hj => by
      match j, hj with
      | 0, _ => exact xj0_6
      | 1, _ => exact xj1_6
      | 2, _ => exact xj2_6
      | 3, _ => exact xj3_6
      | 4, _ => exact xj4_6
      | 5, _ => exact xj5_6
      | 6, _ => exact xj6_6
      | 7, _ => exact xj7_6
      | 8, _ => exact xj8_6
      | 9, _ => exact xj9_6
      | 10, _ => exact xj10_6
      | 11, _ => exact xj11_6
      | 12, _ => exact xj12_6
      | 13, _ => exact xj13_6
      | 14, _ => exact xj14_6
      | 15, _ => exact xj15_6
      | 16, _ => exact xj16_6
      | 17, _ => exact xj17_6
      | 18, _ => exact xj18_6
      | 19, _ => exact xj19_6
      | 20, _ => exact xj20_6
      | z + 21, h => omega),
    (fun j hj => by
      match j, hj with
      | 0, _ => exact xj0_16
      | 1, _ => exact xj1_16
      | 2, _ => exact xj2_16
      | 3, _ => exact xj3_16
      | 4, _ => exact xj4_16
      | 5, _ => exact xj5_16
      | 6, _ => exact xj6_16
      | 7, _ => exact xj7_16
      | 8, _ => exact xj8_16
      | 9, _ => exact xj9_16
      | 10, _ => exact xj10_16
      | 11, _ => exact xj11_16
      | 12, _ => exact xj12_16
      | 13, _ => exact xj13_16
      | 14, _ => exact xj14_16
      | 15, _ => exact xj15_16
      | 16, _ => exact xj16_16
      | 17, _ => exact xj17_16
      | 18, _ => exact xj18_16
      | 19, _ => exact xj19_16
      | 20, _ => exact xj20_16
      | z + 21, h => omega),
    (fun j hj => by
      match j, hj with
      | 0, _ => exact xj0_0
      | 1, _ => exact xj1_0
      | 2, _ => exact xj2_0
      | 3, _ => exact xj3_0
      | 4, _ => exact xj4_0
      | 5, _ => exact xj5_0
      | 6, _ => exact xj6_0
      | 7, _ => exact xj7_0
      | 8, _ => exact xj8_0
      | 9, _ => exact xj9_0
      | 10, _ => exact xj10_0
      | 11, _ => exact xj11_0
      | 12, _ => exact xj12_0
      | 13, _ => exact xj13_0
      | 14, _ => exact xj14_0
      | 15, _ => exact xj15_0
      | 16, _ => exact xj16_0
      | 17, _ => exact xj17_0
      | 18, _ => exact xj18_0
      | 19, _ => exact xj19_0
      | 20, _ => exact xj20_0
      | z + 21, h => omega),
    (fun j hj => by
      match j, hj with
      | 0, _ => exact xj0_ValueError
      | 1, _ => exact xj1_ValueError
      | 2, _ => exact xj2_ValueError
      | 3, _ => exact xj3_ValueError
      | 4, _ => exact xj4_ValueError
      | 5, _ => exact xj5_ValueError
      | 6, _ => exact xj6_ValueError
      | 7, _ => exact xj7_ValueError
      | 8, _ => exact xj8_ValueError
      | 9, _ => exact xj9_ValueError
      | 10, _ => exact xj10_ValueError
      | 11, _ => exact xj11_ValueError
      | 12, _ => exact xj12_ValueError
      | 13, _ => exact xj13_ValueError
      | 14, _ => exact xj14_ValueError
      | 15, _ => exact xj15_ValueError
      | 16, _ => exact xj16_ValueError
      | 17, _ => exact xj17_ValueError
      | 18, _ => exact xj18_ValueError
      | 19, _ => exact xj19_ValueError
      | 20, _ => exact xj20_ValueError
      | z + 21, h => omega)⟩
  obtain ⟨fd, hb, hF⟩ := Tr.def_head hfa T.d_law (fun _ _ _ _ _ _ _ => rfl) fun base => ok_law (P := P) (w := w) (base := base) T
  exact ⟨fd, hb, fun base h1 h2 => (hF base h1 h2).law⟩
end Law
open PySem PySem.W PyProof.Rows
set_option maxRecDepth 100000 in
set_option maxHeartbeats 0 in
theorem PySem.Challenge.cw_sheetback_k00_error_classes_holds : PySem.Challenge.rw_sheetback_k00_error_classes.Holds := by
  refine Law.headed ?_; unfold Law.HC Law.hk
  k_fill
  refine Tr.walkG (l := PySem.Challenge.rw_sheetback_k00_error_classes) (k := 9) (x := "_law_script") (sp := fun _ => Tr.spLaw Law.f_law) rfl (by decide) rfl ?hr (fun w h Y => PySem.W.kIn_of Y) ?hL ?F ?hsp
  case hr => exact ⟨rfl, by decide, by decide⟩
  case hL => intro w; first | rfl | kernel_rfl
  case hsp => exact fun w H a ns hl hb ho => ⟨a, ns, rfl, ho, Nat.le_trans hl (by decide), Law.law_true ns hl hb, fun _ _ h => h⟩
  case F =>
    intro w s₀ mg mb fa h G KX hmg
    refine' Law.all_mk KX G.T.g (And.right G.X) rfl hmg ?b_ValueError ?b_abs ?b_all ?b_bool ?b_int ?b_isinstance ?b_len ?b_list ?b_max ?b_min ?b_range ?b_str ?b_tuple ?b_zip ?a0 ?l0 ?c0 ?k0 ?a1 ?l1 ?c1 ?k1 ?a2 ?l2 ?c2 ?k2 ?a3 ?l3 ?c3 ?k3 ?a4 ?l4 ?c4 ?k4 ?a5 ?l5 ?c5 ?k5 ?a6 ?l6 ?c6 ?k6 ?a7 ?l7 ?c7 ?k7 ?a8 ?l8 ?c8 ?k8 ?a9 ?l9 ?c9 ?k9 ?xsp ?xtk ?xn0 ?xs0 ?xt0 ?xk0 ?xc0 ?xh0 ?xg0 ?xr0 ?xl0 ?xm0 ?xn1 ?xs1 ?xt1 ?xk1 ?xc1 ?xh1 ?xg1 ?xr1 ?xl1 ?xm1 ?xn2 ?xs2 ?xt2 ?xk2 ?xc2 ?xh2 ?xg2 ?xr2 ?xl2 ?xm2 ?xn3 ?xs3 ?xt3 ?xk3 ?xc3 ?xh3 ?xg3 ?xr3 ?xl3 ?xm3 ?xn4 ?xs4 ?xt4 ?xk4 ?xc4 ?xh4 ?xg4 ?xr4 ?xl4 ?xm4 ?xn5 ?xs5 ?xt5 ?xk5 ?xc5 ?xh5 ?xg5 ?xr5 ?xl5 ?xm5 ?xn6 ?xs6 ?xt6 ?xk6 ?xc6 ?xh6 ?xg6 ?xr6 ?xl6 ?xm6 ?xn7 ?xs7 ?xt7 ?xk7 ?xc7 ?xh7 ?xg7 ?xr7 ?xl7 ?xm7 ?xn8 ?xs8 ?xt8 ?xk8 ?xc8 ?xh8 ?xg8 ?xr8 ?xl8 ?xm8 ?xn9 ?xs9 ?xt9 ?xk9 ?xc9 ?xh9 ?xg9 ?xr9 ?xl9 ?xm9 ?xn10 ?xs10 ?xt10 ?xk10 ?xc10 ?xh10 ?xg10 ?xr10 ?xl10 ?xm10 ?xn11 ?xs11 ?xt11 ?xk11 ?xc11 ?xh11 ?xg11 ?xr11 ?xl11 ?xm11 ?xn12 ?xs12 ?xt12 ?xk12 ?xc12 ?xh12 ?xg12 ?xr12 ?xl12 ?xm12 ?xn13 ?xs13 ?xt13 ?xk13 ?xc13 ?xh13 ?xg13 ?xr13 ?xl13 ?xm13 ?xn14 ?xs14 ?xt14 ?xk14 ?xc14 ?xh14 ?xg14 ?xr14 ?xl14 ?xm14 ?xn15 ?xs15 ?xt15 ?xk15 ?xc15 ?xh15 ?xg15 ?xr15 ?xl15 ?xm15 ?xn16 ?xs16 ?xt16 ?xk16 ?xc16 ?xh16 ?xg16 ?xr16 ?xl16 ?xm16 ?xn17 ?xs17 ?xt17 ?xk17 ?xc17 ?xh17 ?xg17 ?xr17 ?xl17 ?xm17 ?xn18 ?xs18 ?xt18 ?xk18 ?xc18 ?xh18 ?xg18 ?xr18 ?xl18 ?xm18 ?xn19 ?xs19 ?xt19 ?xk19 ?xc19 ?xh19 ?xg19 ?xr19 ?xl19 ?xm19 ?xn20 ?xs20 ?xt20 ?xk20 ?xc20 ?xh20 ?xg20 ?xr20 ?xl20 ?xm20 ?xq0 ?xq1 ?xq2 ?xq3 ?xq4 ?xq5 ?xq6 ?xo7 ?xv7 ?xd7 ?xf7_key ?ya7 ?yt7 ?yl7 ?yc7 ?yk7 ?xo8 ?xv8 ?xd8 ?xf8_key ?ya8 ?yt8 ?yl8 ?yc8 ?yk8 ?xo9 ?xv9 ?xd9 ?xf9_key ?ya9 ?yt9 ?yl9 ?yc9 ?yk9 ?xo10 ?xv10 ?xd10 ?xf10_key ?ya10 ?yt10 ?yl10 ?yc10 ?yk10 ?xo11 ?xv11 ?xd11 ?xf11_part ?ya11 ?yt11 ?yl11 ?yc11 ?yk11 ?xo12 ?xv12 ?xd12 ?xf12_part ?ya12 ?yt12 ?yl12 ?yc12 ?yk12 ?xo13 ?xv13 ?xd13 ?xf13_part ?ya13 ?yt13 ?yl13 ?yc13 ?yk13 ?xo14 ?xv14 ?xd14 ?xf14_index ?ya14 ?yt14 ?yl14 ?yc14 ?yk14 ?xo15 ?xv15 ?xd15 ?xf15_index ?ya15 ?yt15 ?yl15 ?yc15 ?yk15 ?xo16 ?xv16 ?xd16 ?xf16_index ?xf16_why ?ya16 ?yt16 ?yl16 ?yc16 ?yk16 ?xo17 ?xv17 ?xd17 ?xf17_part ?ya17 ?yt17 ?yl17 ?yc17 ?yk17 ?xo18 ?xv18 ?xd18 ?xf18_name ?ya18 ?yt18 ?yl18 ?yc18 ?yk18 ?xo19 ?xv19 ?xd19 ?xf19_limit ?ya19 ?yt19 ?yl19 ?yc19 ?yk19 ?xo20 ?xv20 ?xd20 ?xf20_limit ?ya20 ?yt20 ?yl20 ?yc20 ?yk20 ?xj0_10 ?xj1_10 ?xj2_10 ?xj3_10 ?xj4_10 ?xj5_10 ?xj6_10 ?xj7_10 ?xj8_10 ?xj9_10 ?xj10_10 ?xj11_10 ?xj12_10 ?xj13_10 ?xj14_10 ?xj15_10 ?xj16_10 ?xj17_10 ?xj18_10 ?xj19_10 ?xj20_10 ?xj0_20 ?xj1_20 ?xj2_20 ?xj3_20 ?xj4_20 ?xj5_20 ?xj6_20 ?xj7_20 ?xj8_20 ?xj9_20 ?xj10_20 ?xj11_20 ?xj12_20 ?xj13_20 ?xj14_20 ?xj15_20 ?xj16_20 ?xj17_20 ?xj18_20 ?xj19_20 ?xj20_20 ?xj0_9 ?xj1_9 ?xj2_9 ?xj3_9 ?xj4_9 ?xj5_9 ?xj6_9 ?xj7_9 ?xj8_9 ?xj9_9 ?xj10_9 ?xj11_9 ?xj12_9 ?xj13_9 ?xj14_9 ?xj15_9 ?xj16_9 ?xj17_9 ?xj18_9 ?xj19_9 ?xj20_9 ?xj0_15 ?xj1_15 ?xj2_15 ?xj3_15 ?xj4_15 ?xj5_15 ?xj6_15 ?xj7_15 ?xj8_15 ?xj9_15 ?xj10_15 ?xj11_15 ?xj12_15 ?xj13_15 ?xj14_15 ?xj15_15 ?xj16_15 ?xj17_15 ?xj18_15 ?xj19_15 ?xj20_15 ?xj0_1 ?xj1_1 ?xj2_1 ?xj3_1 ?xj4_1 ?xj5_1 ?xj6_1 ?xj7_1 ?xj8_1 ?xj9_1 ?xj10_1 ?xj11_1 ?xj12_1 ?xj13_1 ?xj14_1 ?xj15_1 ?xj16_1 ?xj17_1 ?xj18_1 ?xj19_1 ?xj20_1 ?xj0_5 ?xj1_5 ?xj2_5 ?xj3_5 ?xj4_5 ?xj5_5 ?xj6_5 ?xj7_5 ?xj8_5 ?xj9_5 ?xj10_5 ?xj11_5 ?xj12_5 ?xj13_5 ?xj14_5 ?xj15_5 ?xj16_5 ?xj17_5 ?xj18_5 ?xj19_5 ?xj20_5 ?xj0_12 ?xj1_12 ?xj2_12 ?xj3_12 ?xj4_12 ?xj5_12 ?xj6_12 ?xj7_12 ?xj8_12 ?xj9_12 ?xj10_12 ?xj11_12 ?xj12_12 ?xj13_12 ?xj14_12 ?xj15_12 ?xj16_12 ?xj17_12 ?xj18_12 ?xj19_12 ?xj20_12 ?xj0_7 ?xj1_7 ?xj2_7 ?xj3_7 ?xj4_7 ?xj5_7 ?xj6_7 ?xj7_7 ?xj8_7 ?xj9_7 ?xj10_7 ?xj11_7 ?xj12_7 ?xj13_7 ?xj14_7 ?xj15_7 ?xj16_7 ?xj17_7 ?xj18_7 ?xj19_7 ?xj20_7 ?xj0_19 ?xj1_19 ?xj2_19 ?xj3_19 ?xj4_19 ?xj5_19 ?xj6_19 ?xj7_19 ?xj8_19 ?xj9_19 ?xj10_19 ?xj11_19 ?xj12_19 ?xj13_19 ?xj14_19 ?xj15_19 ?xj16_19 ?xj17_19 ?xj18_19 ?xj19_19 ?xj20_19 ?xj0_14 ?xj1_14 ?xj2_14 ?xj3_14 ?xj4_14 ?xj5_14 ?xj6_14 ?xj7_14 ?xj8_14 ?xj9_14 ?xj10_14 ?xj11_14 ?xj12_14 ?xj13_14 ?xj14_14 ?xj15_14 ?xj16_14 ?xj17_14 ?xj18_14 ?xj19_14 ?xj20_14 ?xj0_13 ?xj1_13 ?xj2_13 ?xj3_13 ?xj4_13 ?xj5_13 ?xj6_13 ?xj7_13 ?xj8_13 ?xj9_13 ?xj10_13 ?xj11_13 ?xj12_13 ?xj13_13 ?xj14_13 ?xj15_13 ?xj16_13 ?xj17_13 ?xj18_13 ?xj19_13 ?xj20_13 ?xj0_18 ?xj1_18 ?xj2_18 ?xj3_18 ?xj4_18 ?xj5_18 ?xj6_18 ?xj7_18 ?xj8_18 ?xj9_18 ?xj10_18 ?xj11_18 ?xj12_18 ?xj13_18 ?xj14_18 ?xj15_18 ?xj16_18 ?xj17_18 ?xj18_18 ?xj19_18 ?xj20_18 ?xj0_8 ?xj1_8 ?xj2_8 ?xj3_8 ?xj4_8 ?xj5_8 ?xj6_8 ?xj7_8 ?xj8_8 ?xj9_8 ?xj10_8 ?xj11_8 ?xj12_8 ?xj13_8 ?xj14_8 ?xj15_8 ?xj16_8 ?xj17_8 ?xj18_8 ?xj19_8 ?xj20_8 ?xj0_11 ?xj1_11 ?xj2_11 ?xj3_11 ?xj4_11 ?xj5_11 ?xj6_11 ?xj7_11 ?xj8_11 ?xj9_11 ?xj10_11 ?xj11_11 ?xj12_11 ?xj13_11 ?xj14_11 ?xj15_11 ?xj16_11 ?xj17_11 ?xj18_11 ?xj19_11 ?xj20_11 ?xj0_17 ?xj1_17 ?xj2_17 ?xj3_17 ?xj4_17 ?xj5_17 ?xj6_17 ?xj7_17 ?xj8_17 ?xj9_17 ?xj10_17 ?xj11_17 ?xj12_17 ?xj13_17 ?xj14_17 ?xj15_17 ?xj16_17 ?xj17_17 ?xj18_17 ?xj19_17 ?xj20_17 ?xj0_3 ?xj1_3 ?xj2_3 ?xj3_3 ?xj4_3 ?xj5_3 ?xj6_3 ?xj7_3 ?xj8_3 ?xj9_3 ?xj10_3 ?xj11_3 ?xj12_3 ?xj13_3 ?xj14_3 ?xj15_3 ?xj16_3 ?xj17_3 ?xj18_3 ?xj19_3 ?xj20_3 ?xj0_2 ?xj1_2 ?xj2_2 ?xj3_2 ?xj4_2 ?xj5_2 ?xj6_2 ?xj7_2 ?xj8_2 ?xj9_2 ?xj10_2 ?xj11_2 ?xj12_2 ?xj13_2 ?xj14_2 ?xj15_2 ?xj16_2 ?xj17_2 ?xj18_2 ?xj19_2 ?xj20_2 ?xj0_4 ?xj1_4 ?xj2_4 ?xj3_4 ?xj4_4 ?xj5_4 ?xj6_4 ?xj7_4 ?xj8_4 ?xj9_4 ?xj10_4 ?xj11_4 ?xj12_4 ?xj13_4 ?xj14_4 ?xj15_4 ?xj16_4 ?xj17_4 ?xj18_4 ?xj19_4 ?xj20_4 ?xj0_6 ?xj1_6 ?xj2_6 ?xj3_6 ?xj4_6 ?xj5_6 ?xj6_6 ?xj7_6 ?xj8_6 ?xj9_6 ?xj10_6 ?xj11_6 ?xj12_6 ?xj13_6 ?xj14_6 ?xj15_6 ?xj16_6 ?xj17_6 ?xj18_6 ?xj19_6 ?xj20_6 ?xj0_16 ?xj1_16 ?xj2_16 ?xj3_16 ?xj4_16 ?xj5_16 ?xj6_16 ?xj7_16 ?xj8_16 ?xj9_16 ?xj10_16 ?xj11_16 ?xj12_16 ?xj13_16 ?xj14_16 ?xj15_16 ?xj16_16 ?xj17_16 ?xj18_16 ?xj19_16 ?xj20_16 ?xj0_0 ?xj1_0 ?xj2_0 ?xj3_0 ?xj4_0 ?xj5_0 ?xj6_0 ?xj7_0 ?xj8_0 ?xj9_0 ?xj10_0 ?xj11_0 ?xj12_0 ?xj13_0 ?xj14_0 ?xj15_0 ?xj16_0 ?xj17_0 ?xj18_0 ?xj19_0 ?xj20_0 ?xj0_ValueError ?xj1_ValueError ?xj2_ValueError ?xj3_ValueError ?xj4_ValueError ?xj5_ValueError ?xj6_ValueError ?xj7_ValueError ?xj8_ValueError ?xj9_ValueError ?xj10_ValueError ?xj11_ValueError ?xj12_ValueError ?xj13_ValueError ?xj14_ValueError ?xj15_ValueError ?xj16_ValueError ?xj17_ValueError ?xj18_ValueError ?xj19_ValueError ?xj20_ValueError
    (case b_ValueError => k_is)
    (case b_abs => k_is)
    (case b_all => k_is)
    (case b_bool => k_is)
    (case b_int => k_is)
    (case b_isinstance => k_is)
    (case b_len => k_is)
    (case b_list => k_is)
    (case b_max => k_is)
    (case b_min => k_is)
    (case b_range => k_is)
    (case b_str => k_is)
    (case b_tuple => k_is)
    (case b_zip => k_is)
    (case a0 => k_is)
    (case l0 => k_is)
    (case c0 => k_is)
    (case k0 => k_is)
    (case a1 => k_is)
    (case l1 => k_is)
    (case c1 => k_is)
    (case k1 => k_is)
    (case a2 => k_is)
    (case l2 => k_is)
    (case c2 => k_is)
    (case k2 => k_is)
    (case a3 => k_is)
    (case l3 => k_is)
    (case c3 => k_is)
    (case k3 => k_is)
    (case a4 => k_is)
    (case l4 => k_is)
    (case c4 => k_is)
    (case k4 => k_is)
    (case a5 => k_is)
    (case l5 => k_is)
    (case c5 => k_is)
    (case k5 => k_is)
    (case a6 => k_is)
    (case l6 => k_is)
    (case c6 => k_is)
    (case k6 => k_is)
    (case a7 => k_is)
    (case l7 => k_is)
    (case c7 => k_is)
    (case k7 => k_is)
    (case a8 => k_is)
    (case l8 => k_is)
    (case c8 => k_is)
    (case k8 => k_is)
    (case a9 => k_is)
    (case l9 => k_is)
    (case c9 => k_is)
    (case k9 => k_is)
    (case xsp => k_is)
    (case xtk => k_is)
    (case xn0 => k_is)
    (case xs0 => k_is)
    (case xt0 => k_is)
    (case xk0 => k_is)
    (case xc0 => k_is)
    (case xh0 => k_is)
    (case xg0 => k_is)
    (case xr0 => k_is)
    (case xl0 => k_is)
    (case xm0 => k_is)
    (case xn1 => k_is)
    (case xs1 => k_is)
    (case xt1 => k_is)
    (case xk1 => k_is)
    (case xc1 => k_is)
    (case xh1 => k_is)
    (case xg1 => k_is)
    (case xr1 => k_is)
    (case xl1 => k_is)
    (case xm1 => k_is)
    (case xn2 => k_is)
    (case xs2 => k_is)
    (case xt2 => k_is)
    (case xk2 => k_is)
    (case xc2 => k_is)
    (case xh2 => k_is)
    (case xg2 => k_is)
    (case xr2 => k_is)
    (case xl2 => k_is)
    (case xm2 => k_is)
    (case xn3 => k_is)
    (case xs3 => k_is)
    (case xt3 => k_is)
    (case xk3 => k_is)
    (case xc3 => k_is)
    (case xh3 => k_is)
    (case xg3 => k_is)
    (case xr3 => k_is)
    (case xl3 => k_is)
    (case xm3 => k_is)
    (case xn4 => k_is)
    (case xs4 => k_is)
    (case xt4 => k_is)
    (case xk4 => k_is)
    (case xc4 => k_is)
    (case xh4 => k_is)
    (case xg4 => k_is)
    (case xr4 => k_is)
    (case xl4 => k_is)
    (case xm4 => k_is)
    (case xn5 => k_is)
    (case xs5 => k_is)
    (case xt5 => k_is)
    (case xk5 => k_is)
    (case xc5 => k_is)
    (case xh5 => k_is)
    (case xg5 => k_is)
    (case xr5 => k_is)
    (case xl5 => k_is)
    (case xm5 => k_is)
    (case xn6 => k_is)
    (case xs6 => k_is)
    (case xt6 => k_is)
    (case xk6 => k_is)
    (case xc6 => k_is)
    (case xh6 => k_is)
    (case xg6 => k_is)
    (case xr6 => k_is)
    (case xl6 => k_is)
    (case xm6 => k_is)
    (case xn7 => k_is)
    (case xs7 => k_is)
    (case xt7 => k_is)
    (case xk7 => k_is)
    (case xc7 => k_is)
    (case xh7 => k_is)
    (case xg7 => k_is)
    (case xr7 => k_is)
    (case xl7 => k_is)
    (case xm7 => k_is)
    (case xn8 => k_is)
    (case xs8 => k_is)
    (case xt8 => k_is)
    (case xk8 => k_is)
    (case xc8 => k_is)
    (case xh8 => k_is)
    (case xg8 => k_is)
    (case xr8 => k_is)
    (case xl8 => k_is)
    (case xm8 => k_is)
    (case xn9 => k_is)
    (case xs9 => k_is)
    (case xt9 => k_is)
    (case xk9 => k_is)
    (case xc9 => k_is)
    (case xh9 => k_is)
    (case xg9 => k_is)
    (case xr9 => k_is)
    (case xl9 => k_is)
    (case xm9 => k_is)
    (case xn10 => k_is)
    (case xs10 => k_is)
    (case xt10 => k_is)
    (case xk10 => k_is)
    (case xc10 => k_is)
    (case xh10 => k_is)
    (case xg10 => k_is)
    (case xr10 => k_is)
    (case xl10 => k_is)
    (case xm10 => k_is)
    (case xn11 => k_is)
    (case xs11 => k_is)
    (case xt11 => k_is)
    (case xk11 => k_is)
    (case xc11 => k_is)
    (case xh11 => k_is)
    (case xg11 => k_is)
    (case xr11 => k_is)
    (case xl11 => k_is)
    (case xm11 => k_is)
    (case xn12 => k_is)
    (case xs12 => k_is)
    (case xt12 => k_is)
    (case xk12 => k_is)
    (case xc12 => k_is)
    (case xh12 => k_is)
    (case xg12 => k_is)
    (case xr12 => k_is)
    (case xl12 => k_is)
    (case xm12 => k_is)
    (case xn13 => k_is)
    (case xs13 => k_is)
    (case xt13 => k_is)
    (case xk13 => k_is)
    (case xc13 => k_is)
    (case xh13 => k_is)
    (case xg13 => k_is)
    (case xr13 => k_is)
    (case xl13 => k_is)
    (case xm13 => k_is)
    (case xn14 => k_is)
    (case xs14 => k_is)
    (case xt14 => k_is)
    (case xk14 => k_is)
    (case xc14 => k_is)
    (case xh14 => k_is)
    (case xg14 => k_is)
    (case xr14 => k_is)
    (case xl14 => k_is)
    (case xm14 => k_is)
    (case xn15 => k_is)
    (case xs15 => k_is)
    (case xt15 => k_is)
    (case xk15 => k_is)
    (case xc15 => k_is)
    (case xh15 => k_is)
    (case xg15 => k_is)
    (case xr15 => k_is)
    (case xl15 => k_is)
    (case xm15 => k_is)
    (case xn16 => k_is)
    (case xs16 => k_is)
    (case xt16 => k_is)
    (case xk16 => k_is)
    (case xc16 => k_is)
    (case xh16 => k_is)
    (case xg16 => k_is)
    (case xr16 => k_is)
    (case xl16 => k_is)
    (case xm16 => k_is)
    (case xn17 => k_is)
    (case xs17 => k_is)
    (case xt17 => k_is)
    (case xk17 => k_is)
    (case xc17 => k_is)
    (case xh17 => k_is)
    (case xg17 => k_is)
    (case xr17 => k_is)
    (case xl17 => k_is)
    (case xm17 => k_is)
    (case xn18 => k_is)
    (case xs18 => k_is)
    (case xt18 => k_is)
    (case xk18 => k_is)
    (case xc18 => k_is)
    (case xh18 => k_is)
    (case xg18 => k_is)
    (case xr18 => k_is)
    (case xl18 => k_is)
    (case xm18 => k_is)
    (case xn19 => k_is)
    (case xs19 => k_is)
    (case xt19 => k_is)
    (case xk19 => k_is)
    (case xc19 => k_is)
    (case xh19 => k_is)
    (case xg19 => k_is)
    (case xr19 => k_is)
    (case xl19 => k_is)
    (case xm19 => k_is)
    (case xn20 => k_is)
    (case xs20 => k_is)
    (case xt20 => k_is)
    (case xk20 => k_is)
    (case xc20 => k_is)
    (case xh20 => k_is)
    (case xg20 => k_is)
    (case xr20 => k_is)
    (case xl20 => k_is)
    (case xm20 => k_is)
    (case xq0 => k_exc)
    (case xq1 => k_exc)
    (case xq2 => k_exc)
    (case xq3 => k_exc)
    (case xq4 => k_exc)
    (case xq5 => k_exc)
    (case xq6 => k_exc)
    (case xo7 => k_is)
    (case xv7 => decide +kernel)
    (case xd7 => k_is)
    (case xf7_key => k_is)
    (case ya7 => k_is)
    (case yt7 => k_is)
    (case yl7 => k_is)
    (case yc7 => k_is)
    (case yk7 => k_is)
    (case xo8 => k_is)
    (case xv8 => decide +kernel)
    (case xd8 => k_is)
    (case xf8_key => k_is)
    (case ya8 => k_is)
    (case yt8 => k_is)
    (case yl8 => k_is)
    (case yc8 => k_is)
    (case yk8 => k_is)
    (case xo9 => k_is)
    (case xv9 => decide +kernel)
    (case xd9 => k_is)
    (case xf9_key => k_is)
    (case ya9 => k_is)
    (case yt9 => k_is)
    (case yl9 => k_is)
    (case yc9 => k_is)
    (case yk9 => k_is)
    (case xo10 => k_is)
    (case xv10 => decide +kernel)
    (case xd10 => k_is)
    (case xf10_key => k_is)
    (case ya10 => k_is)
    (case yt10 => k_is)
    (case yl10 => k_is)
    (case yc10 => k_is)
    (case yk10 => k_is)
    (case xo11 => k_is)
    (case xv11 => decide +kernel)
    (case xd11 => k_is)
    (case xf11_part => k_is)
    (case ya11 => k_is)
    (case yt11 => k_is)
    (case yl11 => k_is)
    (case yc11 => k_is)
    (case yk11 => k_is)
    (case xo12 => k_is)
    (case xv12 => decide +kernel)
    (case xd12 => k_is)
    (case xf12_part => k_is)
    (case ya12 => k_is)
    (case yt12 => k_is)
    (case yl12 => k_is)
    (case yc12 => k_is)
    (case yk12 => k_is)
    (case xo13 => k_is)
    (case xv13 => decide +kernel)
    (case xd13 => k_is)
    (case xf13_part => k_is)
    (case ya13 => k_is)
    (case yt13 => k_is)
    (case yl13 => k_is)
    (case yc13 => k_is)
    (case yk13 => k_is)
    (case xo14 => k_is)
    (case xv14 => decide +kernel)
    (case xd14 => k_is)
    (case xf14_index => k_is)
    (case ya14 => k_is)
    (case yt14 => k_is)
    (case yl14 => k_is)
    (case yc14 => k_is)
    (case yk14 => k_is)
    (case xo15 => k_is)
    (case xv15 => decide +kernel)
    (case xd15 => k_is)
    (case xf15_index => k_is)
    (case ya15 => k_is)
    (case yt15 => k_is)
    (case yl15 => k_is)
    (case yc15 => k_is)
    (case yk15 => k_is)
    (case xo16 => k_is)
    (case xv16 => decide +kernel)
    (case xd16 => k_is)
    (case xf16_index => k_is)
    (case xf16_why => k_is)
    (case ya16 => k_is)
    (case yt16 => k_is)
    (case yl16 => k_is)
    (case yc16 => k_is)
    (case yk16 => k_is)
    (case xo17 => k_is)
    (case xv17 => decide +kernel)
    (case xd17 => k_is)
    (case xf17_part => k_is)
    (case ya17 => k_is)
    (case yt17 => k_is)
    (case yl17 => k_is)
    (case yc17 => k_is)
    (case yk17 => k_is)
    (case xo18 => k_is)
    (case xv18 => decide +kernel)
    (case xd18 => k_is)
    (case xf18_name => k_is)
    (case ya18 => k_is)
    (case yt18 => k_is)
    (case yl18 => k_is)
    (case yc18 => k_is)
    (case yk18 => k_is)
    (case xo19 => k_is)
    (case xv19 => decide +kernel)
    (case xd19 => k_is)
    (case xf19_limit => k_is)
    (case ya19 => k_is)
    (case yt19 => k_is)
    (case yl19 => k_is)
    (case yc19 => k_is)
    (case yk19 => k_is)
    (case xo20 => k_is)
    (case xv20 => decide +kernel)
    (case xd20 => k_is)
    (case xf20_limit => k_is)
    (case ya20 => k_is)
    (case yt20 => k_is)
    (case yl20 => k_is)
    (case yc20 => k_is)
    (case yk20 => k_is)
    (case xj0_10 => k_is)
    (case xj1_10 => k_is)
    (case xj2_10 => k_is)
    (case xj3_10 => k_is)
    (case xj4_10 => k_is)
    (case xj5_10 => k_is)
    (case xj6_10 => k_is)
    (case xj7_10 => k_is)
    (case xj8_10 => k_is)
    (case xj9_10 => k_is)
    (case xj10_10 => k_is)
    (case xj11_10 => k_is)
    (case xj12_10 => k_is)
    (case xj13_10 => k_is)
    (case xj14_10 => k_is)
    (case xj15_10 => k_is)
    (case xj16_10 => k_is)
    (case xj17_10 => k_is)
    (case xj18_10 => k_is)
    (case xj19_10 => k_is)
    (case xj20_10 => k_is)
    (case xj0_20 => k_is)
    (case xj1_20 => k_is)
    (case xj2_20 => k_is)
    (case xj3_20 => k_is)
    (case xj4_20 => k_is)
    (case xj5_20 => k_is)
    (case xj6_20 => k_is)
    (case xj7_20 => k_is)
    (case xj8_20 => k_is)
    (case xj9_20 => k_is)
    (case xj10_20 => k_is)
    (case xj11_20 => k_is)
    (case xj12_20 => k_is)
    (case xj13_20 => k_is)
    (case xj14_20 => k_is)
    (case xj15_20 => k_is)
    (case xj16_20 => k_is)
    (case xj17_20 => k_is)
    (case xj18_20 => k_is)
    (case xj19_20 => k_is)
    (case xj20_20 => k_is)
    (case xj0_9 => k_is)
    (case xj1_9 => k_is)
    (case xj2_9 => k_is)
    (case xj3_9 => k_is)
    (case xj4_9 => k_is)
    (case xj5_9 => k_is)
    (case xj6_9 => k_is)
    (case xj7_9 => k_is)
    (case xj8_9 => k_is)
    (case xj9_9 => k_is)
    (case xj10_9 => k_is)
    (case xj11_9 => k_is)
    (case xj12_9 => k_is)
    (case xj13_9 => k_is)
    (case xj14_9 => k_is)
    (case xj15_9 => k_is)
    (case xj16_9 => k_is)
    (case xj17_9 => k_is)
    (case xj18_9 => k_is)
    (case xj19_9 => k_is)
    (case xj20_9 => k_is)
    (case xj0_15 => k_is)
    (case xj1_15 => k_is)
    (case xj2_15 => k_is)
    (case xj3_15 => k_is)
    (case xj4_15 => k_is)
    (case xj5_15 => k_is)
    (case xj6_15 => k_is)
    (case xj7_15 => k_is)
    (case xj8_15 => k_is)
    (case xj9_15 => k_is)
    (case xj10_15 => k_is)
    (case xj11_15 => k_is)
    (case xj12_15 => k_is)
    (case xj13_15 => k_is)
    (case xj14_15 => k_is)
    (case xj15_15 => k_is)
    (case xj16_15 => k_is)
    (case xj17_15 => k_is)
    (case xj18_15 => k_is)
    (case xj19_15 => k_is)
    (case xj20_15 => k_is)
    (case xj0_1 => k_is)
    (case xj1_1 => k_is)
    (case xj2_1 => k_is)
    (case xj3_1 => k_is)
    (case xj4_1 => k_is)
    (case xj5_1 => k_is)
    (case xj6_1 => k_is)
    (case xj7_1 => k_is)
    (case xj8_1 => k_is)
    (case xj9_1 => k_is)
    (case xj10_1 => k_is)
    (case xj11_1 => k_is)
    (case xj12_1 => k_is)
    (case xj13_1 => k_is)
    (case xj14_1 => k_is)
    (case xj15_1 => k_is)
    (case xj16_1 => k_is)
    (case xj17_1 => k_is)
    (case xj18_1 => k_is)
    (case xj19_1 => k_is)
    (case xj20_1 => k_is)
    (case xj0_5 => k_is)
    (case xj1_5 => k_is)
    (case xj2_5 => k_is)
    (case xj3_5 => k_is)
    (case xj4_5 => k_is)
    (case xj5_5 => k_is)
    (case xj6_5 => k_is)
    (case xj7_5 => k_is)
    (case xj8_5 => k_is)
    (case xj9_5 => k_is)
    (case xj10_5 => k_is)
    (case xj11_5 => k_is)
    (case xj12_5 => k_is)
    (case xj13_5 => k_is)
    (case xj14_5 => k_is)
    (case xj15_5 => k_is)
    (case xj16_5 => k_is)
    (case xj17_5 => k_is)
    (case xj18_5 => k_is)
    (case xj19_5 => k_is)
    (case xj20_5 => k_is)
    (case xj0_12 => k_is)
    (case xj1_12 => k_is)
    (case xj2_12 => k_is)
    (case xj3_12 => k_is)
    (case xj4_12 => k_is)
    (case xj5_12 => k_is)
    (case xj6_12 => k_is)
    (case xj7_12 => k_is)
    (case xj8_12 => k_is)
    (case xj9_12 => k_is)
    (case xj10_12 => k_is)
    (case xj11_12 => k_is)
    (case xj12_12 => k_is)
    (case xj13_12 => k_is)
    (case xj14_12 => k_is)
    (case xj15_12 => k_is)
    (case xj16_12 => k_is)
    (case xj17_12 => k_is)
    (case xj18_12 => k_is)
    (case xj19_12 => k_is)
    (case xj20_12 => k_is)
    (case xj0_7 => k_is)
    (case xj1_7 => k_is)
    (case xj2_7 => k_is)
    (case xj3_7 => k_is)
    (case xj4_7 => k_is)
    (case xj5_7 => k_is)
    (case xj6_7 => k_is)
    (case xj7_7 => k_is)
    (case xj8_7 => k_is)
    (case xj9_7 => k_is)
    (case xj10_7 => k_is)
    (case xj11_7 => k_is)
    (case xj12_7 => k_is)
    (case xj13_7 => k_is)
    (case xj14_7 => k_is)
    (case xj15_7 => k_is)
    (case xj16_7 => k_is)
    (case xj17_7 => k_is)
    (case xj18_7 => k_is)
    (case xj19_7 => k_is)
    (case xj20_7 => k_is)
    (case xj0_19 => k_is)
    (case xj1_19 => k_is)
    (case xj2_19 => k_is)
    (case xj3_19 => k_is)
    (case xj4_19 => k_is)
    (case xj5_19 => k_is)
    (case xj6_19 => k_is)
    (case xj7_19 => k_is)
    (case xj8_19 => k_is)
    (case xj9_19 => k_is)
    (case xj10_19 => k_is)
    (case xj11_19 => k_is)
    (case xj12_19 => k_is)
    (case xj13_19 => k_is)
    (case xj14_19 => k_is)
    (case xj15_19 => k_is)
    (case xj16_19 => k_is)
    (case xj17_19 => k_is)
    (case xj18_19 => k_is)
    (case xj19_19 => k_is)
    (case xj20_19 => k_is)
    (case xj0_14 => k_is)
    (case xj1_14 => k_is)
    (case xj2_14 => k_is)
    (case xj3_14 => k_is)
    (case xj4_14 => k_is)
    (case xj5_14 => k_is)
    (case xj6_14 => k_is)
    (case xj7_14 => k_is)
    (case xj8_14 => k_is)
    (case xj9_14 => k_is)
    (case xj10_14 => k_is)
    (case xj11_14 => k_is)
    (case xj12_14 => k_is)
    (case xj13_14 => k_is)
    (case xj14_14 => k_is)
    (case xj15_14 => k_is)
    (case xj16_14 => k_is)
    (case xj17_14 => k_is)
    (case xj18_14 => k_is)
    (case xj19_14 => k_is)
    (case xj20_14 => k_is)
    (case xj0_13 => k_is)
    (case xj1_13 => k_is)
    (case xj2_13 => k_is)
    (case xj3_13 => k_is)
    (case xj4_13 => k_is)
    (case xj5_13 => k_is)
    (case xj6_13 => k_is)
    (case xj7_13 => k_is)
    (case xj8_13 => k_is)
    (case xj9_13 => k_is)
    (case xj10_13 => k_is)
    (case xj11_13 => k_is)
    (case xj12_13 => k_is)
    (case xj13_13 => k_is)
    (case xj14_13 => k_is)
    (case xj15_13 => k_is)
    (case xj16_13 => k_is)
    (case xj17_13 => k_is)
    (case xj18_13 => k_is)
    (case xj19_13 => k_is)
    (case xj20_13 => k_is)
    (case xj0_18 => k_is)
    (case xj1_18 => k_is)
    (case xj2_18 => k_is)
    (case xj3_18 => k_is)
    (case xj4_18 => k_is)
    (case xj5_18 => k_is)
    (case xj6_18 => k_is)
    (case xj7_18 => k_is)
    (case xj8_18 => k_is)
    (case xj9_18 => k_is)
    (case xj10_18 => k_is)
    (case xj11_18 => k_is)
    (case xj12_18 => k_is)
    (case xj13_18 => k_is)
    (case xj14_18 => k_is)
    (case xj15_18 => k_is)
    (case xj16_18 => k_is)
    (case xj17_18 => k_is)
    (case xj18_18 => k_is)
    (case xj19_18 => k_is)
    (case xj20_18 => k_is)
    (case xj0_8 => k_is)
    (case xj1_8 => k_is)
    (case xj2_8 => k_is)
    (case xj3_8 => k_is)
    (case xj4_8 => k_is)
    (case xj5_8 => k_is)
    (case xj6_8 => k_is)
    (case xj7_8 => k_is)
    (case xj8_8 => k_is)
    (case xj9_8 => k_is)
    (case xj10_8 => k_is)
    (case xj11_8 => k_is)
    (case xj12_8 => k_is)
    (case xj13_8 => k_is)
    (case xj14_8 => k_is)
    (case xj15_8 => k_is)
    (case xj16_8 => k_is)
    (case xj17_8 => k_is)
    (case xj18_8 => k_is)
    (case xj19_8 => k_is)
    (case xj20_8 => k_is)
    (case xj0_11 => k_is)
    (case xj1_11 => k_is)
    (case xj2_11 => k_is)
    (case xj3_11 => k_is)
    (case xj4_11 => k_is)
    (case xj5_11 => k_is)
    (case xj6_11 => k_is)
    (case xj7_11 => k_is)
    (case xj8_11 => k_is)
    (case xj9_11 => k_is)
    (case xj10_11 => k_is)
    (case xj11_11 => k_is)
    (case xj12_11 => k_is)
    (case xj13_11 => k_is)
    (case xj14_11 => k_is)
    (case xj15_11 => k_is)
    (case xj16_11 => k_is)
    (case xj17_11 => k_is)
    (case xj18_11 => k_is)
    (case xj19_11 => k_is)
    (case xj20_11 => k_is)
    (case xj0_17 => k_is)
    (case xj1_17 => k_is)
    (case xj2_17 => k_is)
    (case xj3_17 => k_is)
    (case xj4_17 => k_is)
    (case xj5_17 => k_is)
    (case xj6_17 => k_is)
    (case xj7_17 => k_is)
    (case xj8_17 => k_is)
    (case xj9_17 => k_is)
    (case xj10_17 => k_is)
    (case xj11_17 => k_is)
    (case xj12_17 => k_is)
    (case xj13_17 => k_is)
    (case xj14_17 => k_is)
    (case xj15_17 => k_is)
    (case xj16_17 => k_is)
    (case xj17_17 => k_is)
    (case xj18_17 => k_is)
    (case xj19_17 => k_is)
    (case xj20_17 => k_is)
    (case xj0_3 => k_is)
    (case xj1_3 => k_is)
    (case xj2_3 => k_is)
    (case xj3_3 => k_is)
    (case xj4_3 => k_is)
    (case xj5_3 => k_is)
    (case xj6_3 => k_is)
    (case xj7_3 => k_is)
    (case xj8_3 => k_is)
    (case xj9_3 => k_is)
    (case xj10_3 => k_is)
    (case xj11_3 => k_is)
    (case xj12_3 => k_is)
    (case xj13_3 => k_is)
    (case xj14_3 => k_is)
    (case xj15_3 => k_is)
    (case xj16_3 => k_is)
    (case xj17_3 => k_is)
    (case xj18_3 => k_is)
    (case xj19_3 => k_is)
    (case xj20_3 => k_is)
    (case xj0_2 => k_is)
    (case xj1_2 => k_is)
    (case xj2_2 => k_is)
    (case xj3_2 => k_is)
    (case xj4_2 => k_is)
    (case xj5_2 => k_is)
    (case xj6_2 => k_is)
    (case xj7_2 => k_is)
    (case xj8_2 => k_is)
    (case xj9_2 => k_is)
    (case xj10_2 => k_is)
    (case xj11_2 => k_is)
    (case xj12_2 => k_is)
    (case xj13_2 => k_is)
    (case xj14_2 => k_is)
    (case xj15_2 => k_is)
    (case xj16_2 => k_is)
    (case xj17_2 => k_is)
    (case xj18_2 => k_is)
    (case xj19_2 => k_is)
    (case xj20_2 => k_is)
    (case xj0_4 => k_is)
    (case xj1_4 => k_is)
    (case xj2_4 => k_is)
    (case xj3_4 => k_is)
    (case xj4_4 => k_is)
    (case xj5_4 => k_is)
    (case xj6_4 => k_is)
    (case xj7_4 => k_is)
    (case xj8_4 => k_is)
    (case xj9_4 => k_is)
    (case xj10_4 => k_is)
    (case xj11_4 => k_is)
    (case xj12_4 => k_is)
    (case xj13_4 => k_is)
    (case xj14_4 => k_is)
    (case xj15_4 => k_is)
    (case xj16_4 => k_is)
    (case xj17_4 => k_is)
    (case xj18_4 => k_is)
    (case xj19_4 => k_is)
    (case xj20_4 => k_is)
    (case xj0_6 => k_is)
    (case xj1_6 => k_is)
    (case xj2_6 => k_is)
    (case xj3_6 => k_is)
    (case xj4_6 => k_is)
    (case xj5_6 => k_is)
    (case xj6_6 => k_is)
    (case xj7_6 => k_is)
    (case xj8_6 => k_is)
    (case xj9_6 => k_is)
    (case xj10_6 => k_is)
    (case xj11_6 => k_is)
    (case xj12_6 => k_is)
    (case xj13_6 => k_is)
    (case xj14_6 => k_is)
    (case xj15_6 => k_is)
    (case xj16_6 => k_is)
    (case xj17_6 => k_is)
    (case xj18_6 => k_is)
    (case xj19_6 => k_is)
    (case xj20_6 => k_is)
    (case xj0_16 => k_is)
    (case xj1_16 => k_is)
    (case xj2_16 => k_is)
    (case xj3_16 => k_is)
    (case xj4_16 => k_is)
    (case xj5_16 => k_is)
    (case xj6_16 => k_is)
    (case xj7_16 => k_is)
    (case xj8_16 => k_is)
    (case xj9_16 => k_is)
    (case xj10_16 => k_is)
    (case xj11_16 => k_is)
    (case xj12_16 => k_is)
    (case xj13_16 => k_is)
    (case xj14_16 => k_is)
    (case xj15_16 => k_is)
    (case xj16_16 => k_is)
    (case xj17_16 => k_is)
    (case xj18_16 => k_is)
    (case xj19_16 => k_is)
    (case xj20_16 => k_is)
    (case xj0_0 => k_is)
    (case xj1_0 => k_is)
    (case xj2_0 => k_is)
    (case xj3_0 => k_is)
    (case xj4_0 => k_is)
    (case xj5_0 => k_is)
    (case xj6_0 => k_is)
    (case xj7_0 => k_is)
    (case xj8_0 => k_is)
    (case xj9_0 => k_is)
    (case xj10_0 => k_is)
    (case xj11_0 => k_is)
    (case xj12_0 => k_is)
    (case xj13_0 => k_is)
    (case xj14_0 => k_is)
    (case xj15_0 => k_is)
    (case xj16_0 => k_is)
    (case xj17_0 => k_is)
    (case xj18_0 => k_is)
    (case xj19_0 => k_is)
    (case xj20_0 => k_is)
    (case xj0_ValueError => k_is)
    (case xj1_ValueError => k_is)
    (case xj2_ValueError => k_is)
    (case xj3_ValueError => k_is)
    (case xj4_ValueError => k_is)
    (case xj5_ValueError => k_is)
    (case xj6_ValueError => k_is)
    (case xj7_ValueError => k_is)
    (case xj8_ValueError => k_is)
    (case xj9_ValueError => k_is)
    (case xj10_ValueError => k_is)
    (case xj11_ValueError => k_is)
    (case xj12_ValueError => k_is)
    (case xj13_ValueError => k_is)
    (case xj14_ValueError => k_is)
    (case xj15_ValueError => k_is)
    (case xj16_ValueError => k_is)
    (case xj17_ValueError => k_is)
    (case xj18_ValueError => k_is)
    (case xj19_ValueError => k_is)
    (case xj20_ValueError => k_is)
