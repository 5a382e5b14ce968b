import PyProof.Rows.All
import KE.OsRunLaw
import HandS.Words
import PySem.Challenge.RW_sheetback_k22_joinings_refused
import PySem.Str
import Wide.All
import OpenK.AllK
import HandS.Base
import HandS.Call
import HandS.List
import HandS.TupAny
import HandS.Zip
import KE.KeyNested
import HandS.TupSets
import HandS.SetKeys
import PyProof.SetNew
import Wide.FinOn
import HandS.ForMost
import HandS.Exc
import HandS.WordsExc
import HandS.CallSlots
import HandS.Wide
import HandS.IsInst
import PyProof.P3In
import PyProof.Rows.RuleB_pow
import KE.KRevSl
import HandS.WideBits
import HandS.Style
import HandS.EndBits
import HandS.Codes
import HandS.TryMany
import HandS.ExcField
import HandS.RaiseMore
import HandS.ExcInit
import KE.KExcIs
import HandS.Dict
import OpenK.KWalk
import OpenK.KOps
import OpenK.KMeth
import KE.KOpsOwn
import HandS.Flow
import HandS.Strs
import HandS.Text
import HandS.SetFor
import PyProof.ReprRoads
import HandS.SortInts
import PyProof.ListStr
import HandS.DictComp
import HandS.Defaults
import OpenK.KMake
import HandS.NamedTupSort
import PyProof.DictUpdate
import KE.KDictPairs
import HandS.ListItems
import KE.GoesMore
import KE.GoesZip
import KE.GoesEnum
import HandS.Iter
import PyProof.EnumMake
import HandS.SetBool
import PyProof.NeKinds
import HandS.Small
import HandS.SortKw
import KE.DatumOrd
import HandS.NoneIn
set_option Elab.async false
set_option linter.all false
set_option maxRecDepth 100000
set_option maxHeartbeats 0
namespace Law
open PySem L2 PySem.W PyProof.Rows
def htop (i : Nat) : Stmt := PySem.Challenge.pw_sheetback_k22_joinings_refused.main.body.getD i (.Pass ⟨0, 0, 0, 0⟩)
def ko2 (P : Params) : Obj := .mk .none none (.dict #[] 0) #[]
def ko3 (P : Params) : Obj := .mk (.type "dict") none (.dict #[(.mk (PySem.PyData.keyHash P (.ofString "__name__")) (.str (.ofString "__name__") 165) (.str (.ofString "law_sheetback_k22_joinings_refused") 411)), (.mk (PySem.PyData.keyHash P (.ofString "__doc__")) (.str (.ofString "__doc__") 166) .none), (.mk (PySem.PyData.keyHash P (.ofString "__package__")) (.str (.ofString "__package__") 167) .none), (.mk (PySem.PyData.keyHash P (.ofString "__loader__")) (.str (.ofString "__loader__") 168) (.builtin "__main__.__loader__#opaque")), (.mk (PySem.PyData.keyHash P (.ofString "__spec__")) (.str (.ofString "__spec__") 169) .none), (.mk (PySem.PyData.keyHash P (.ofString "__annotations__")) (.str (.ofString "__annotations__") 170) (.ref 6)), (.mk (PySem.PyData.keyHash P (.ofString "__builtins__")) (.str (.ofString "__builtins__") 171) (.ref 4)), (.mk (PySem.PyData.keyHash P (.ofString "__file__")) (.str (.ofString "__file__") 173) (.str (.ofString "/claim/cut.py") 172)), (.mk (PySem.PyData.keyHash P (.ofString "__cached__")) (.str (.ofString "__cached__") 174) .none), (.mk (PySem.PyData.keyHash P (.ofString "SheetError")) (.str (.ofString "SheetError") 206) (.ref 24)), (.mk (PySem.PyData.keyHash P (.ofString "NoColumns")) (.str (.ofString "NoColumns") 222) (.ref 37)), (.mk (PySem.PyData.keyHash P (.ofString "NoSending")) (.str (.ofString "NoSending") 247) (.ref 56)), (.mk (PySem.PyData.keyHash P (.ofString "NoJoining")) (.str (.ofString "NoJoining") 272) (.ref 75)), (.mk (PySem.PyData.keyHash P (.ofString "KEY")) (.str (.ofString "KEY") 276) (.str (.ofString "key") 275)), (.mk (PySem.PyData.keyHash P (.ofString "LETTERS")) (.str (.ofString "LETTERS") 278) (.str (.ofString "abcdefghijklmnopqrstuvwxyz") 277)), (.mk (PySem.PyData.keyHash P (.ofString "is_name")) (.str (.ofString "is_name") 284) (.ref 82)), (.mk (PySem.PyData.keyHash P (.ofString "is_item")) (.str (.ofString "is_item") 291) (.ref 89)), (.mk (PySem.PyData.keyHash P (.ofString "are_distinct")) (.str (.ofString "are_distinct") 298) (.ref 96)), (.mk (PySem.PyData.keyHash P (.ofString "are_items")) (.str (.ofString "are_items") 304) (.ref 101)), (.mk (PySem.PyData.keyHash P (.ofString "BLANKS")) (.str (.ofString "BLANKS") 309) (.ref 102)), (.mk (PySem.PyData.keyHash P (.ofString "MANY")) (.str (.ofString "MANY") 314) (.ref 103)), (.mk (PySem.PyData.keyHash P (.ofString "NEW")) (.str (.ofString "NEW") 318) (.ref 104)), (.mk (PySem.PyData.keyHash P (.ofString "GONE")) (.str (.ofString "GONE") 321) (.ref 105)), (.mk (PySem.PyData.keyHash P (.ofString "SCOPES")) (.str (.ofString "SCOPES") 324) (.ref 106)), (.mk (PySem.PyData.keyHash P (.ofString "is_word")) (.str (.ofString "is_word") 332) (.ref 113)), (.mk (PySem.PyData.keyHash P (.ofString "is_write")) (.str (.ofString "is_write") 338) (.ref 118)), (.mk (PySem.PyData.keyHash P (.ofString "wrong_part")) (.str (.ofString "wrong_part") 354) (.ref 125)), (.mk (PySem.PyData.keyHash P (.ofString "Joining")) (.str (.ofString "Joining") 410) (.ref 158)), (.mk (PySem.PyData.keyHash P (.ofString "_law_pot")) (.str (.ofString "_law_pot") 422) (.ref 169)), (.mk (PySem.PyData.keyHash P (.ofString "_law_draw")) (.str (.ofString "_law_draw") 432) (.ref 176)), (.mk (PySem.PyData.keyHash P (.ofString "_law_some")) (.str (.ofString "_law_some") 444) (.ref 183)), (.mk (PySem.PyData.keyHash P (.ofString "_law_names")) (.str (.ofString "_law_names") 450) (.ref 188)), (.mk (PySem.PyData.keyHash P (.ofString "_law_parts")) (.str (.ofString "_law_parts") 456) (.ref 193)), (.mk (PySem.PyData.keyHash P (.ofString "_law_is_names")) (.str (.ofString "_law_is_names") 462) (.ref 198)), (.mk (PySem.PyData.keyHash P (.ofString "_law_is_write")) (.str (.ofString "_law_is_write") 468) (.ref 203)), (.mk (PySem.PyData.keyHash P (.ofString "_law_wrong")) (.str (.ofString "_law_wrong") 482) (.ref 210)), (.mk (PySem.PyData.keyHash P (.ofString "_law_bent")) (.str (.ofString "_law_bent") 498) (.ref 217)), (.mk (PySem.PyData.keyHash P (.ofString "_law_same")) (.str (.ofString "_law_same") 504) (.ref 222)), (.mk (PySem.PyData.keyHash P (.ofString "_law_is")) (.str (.ofString "_law_is") 512) (.ref 229)), (.mk (PySem.PyData.keyHash P (.ofString "_law_plain")) (.str (.ofString "_law_plain") 526) (.ref 236)), (.mk (PySem.PyData.keyHash P (.ofString "_law_by_name")) (.str (.ofString "_law_by_name") 540) (.ref 243)), (.mk (PySem.PyData.keyHash P (.ofString "_law_made")) (.str (.ofString "_law_made") 552) (.ref 250)), (.mk (PySem.PyData.keyHash P (.ofString "_law_equal_right")) (.str (.ofString "_law_equal_right") 571) (.ref 257)), (.mk (PySem.PyData.keyHash P (.ofString "law")) (.str (.ofString "law") 591) (.ref 264))] 44) #[]
def ko23 (P : Params) : Obj := .mk (.type "dict") none (.dict #[(.mk (PySem.PyData.keyHash P (.ofString "__module__")) (.str (.ofString "__module__") 196) (.str (.ofString "sheetback.errors") 187)), (.mk (PySem.PyData.keyHash P (.ofString "__firstlineno__")) (.str (.ofString "__firstlineno__") 200) (.int 2 199)), (.mk (PySem.PyData.keyHash P (.ofString "__static_attributes__")) (.str (.ofString "__static_attributes__") 201) (.ref 22)), (.mk (PySem.PyData.keyHash P (.ofString "__weakref__")) (.str (.ofString "__weakref__") 203) (.ref 25)), (.mk (PySem.PyData.keyHash P (.ofString "__doc__")) (.str (.ofString "__doc__") 204) .none)] 3) #[]
def ko24 (P : Params) : Obj := .mk (.type "type") none (.cls (.mk (.ofString "SheetError") [(.type "ValueError")] [(.ref 24), (.type "ValueError"), (.type "Exception"), (.type "BaseException"), (.type "object")] 23 (.ofString "SheetError") true [] [(.ref 37), (.ref 56), (.ref 75)] false none false)) #[(some (.ref 15)), none, (some (.str (.ofString "SheetError") 189)), (some (.str (.ofString "SheetError") 197)), (some (.builtin "ValueError.__new__")), (some (.bool true))]
def ko36 (P : Params) : Obj := .mk (.type "dict") none (.dict #[(.mk (PySem.PyData.keyHash P (.ofString "__module__")) (.str (.ofString "__module__") 214) (.str (.ofString "sheetback.errors") 187)), (.mk (PySem.PyData.keyHash P (.ofString "__firstlineno__")) (.str (.ofString "__firstlineno__") 218) (.int 4 217)), (.mk (PySem.PyData.keyHash P (.ofString "__static_attributes__")) (.str (.ofString "__static_attributes__") 219) (.ref 35)), (.mk (PySem.PyData.keyHash P (.ofString "__doc__")) (.str (.ofString "__doc__") 220) .none)] 2) #[]
def ko37 (P : Params) : Obj := .mk (.type "type") none (.cls (.mk (.ofString "NoColumns") [(.ref 24)] [(.ref 37), (.ref 24), (.type "ValueError"), (.type "Exception"), (.type "BaseException"), (.type "object")] 36 (.ofString "NoColumns") true [] [] false none false)) #[(some (.ref 28)), none, (some (.str (.ofString "NoColumns") 207)), (some (.str (.ofString "NoColumns") 215)), (some (.builtin "ValueError.__new__")), (some (.bool true))]
def ko49 (P : Params) : Obj := .mk (.type "tuple") none (.seq #[(.str (.ofString "self") 238), (.str (.ofString "part") 239)] 0) #[]
def ko52 (P : Params) : Obj := .mk (.type "code") none (.fields #[(.str (.ofString "__init__") 235), (.str (.ofString "NoSending.__init__") 236), (.str (.ofString "/claim/cut.py") 237), (.int 8 0), (.int 2 0), (.int 0 0), (.int 0 0), (.int 3 0), (.ref 47), (.bool true), (.int 181 0), (.ref 48), .none, (.ref 49), (.ref 50), (.ref 51), (.int 240 0), (.int 8 0), (.str (.ofString "/claim/cut.py") 241)]) #[]
def ko53 (P : Params) : Obj := .mk (.type "function") none (.func (PySem.W.fnOf (.ofString "__init__") (.ofString "NoSending.__init__") (defArgs (inClass (htop 3) 0)) (defBody (inClass (htop 3) 0)) (defScope (inClass (htop 3) 0)) .none .none .none (.str (.ofString "sheetback.errors") 187) none (.ref 52) .none)) #[]
def ko54 (P : Params) : Obj := .mk (.type "tuple") none (.seq #[(.str (.ofString "part") 243)] 0) #[]
def ko55 (P : Params) : Obj := .mk (.type "dict") none (.dict #[(.mk (PySem.PyData.keyHash P (.ofString "__module__")) (.str (.ofString "__module__") 230) (.str (.ofString "sheetback.errors") 187)), (.mk (PySem.PyData.keyHash P (.ofString "__firstlineno__")) (.str (.ofString "__firstlineno__") 234) (.int 6 233)), (.mk (PySem.PyData.keyHash P (.ofString "__init__")) (.str (.ofString "__init__") 242) (.ref 53)), (.mk (PySem.PyData.keyHash P (.ofString "__static_attributes__")) (.str (.ofString "__static_attributes__") 244) (.ref 54)), (.mk (PySem.PyData.keyHash P (.ofString "__doc__")) (.str (.ofString "__doc__") 245) .none)] 2) #[]
def ko56 (P : Params) : Obj := .mk (.type "type") none (.cls (.mk (.ofString "NoSending") [(.ref 24)] [(.ref 56), (.ref 24), (.type "ValueError"), (.type "Exception"), (.type "BaseException"), (.type "object")] 55 (.ofString "NoSending") true [] [] false none false)) #[(some (.ref 40)), none, (some (.str (.ofString "NoSending") 223)), (some (.str (.ofString "NoSending") 231)), (some (.builtin "ValueError.__new__")), (some (.bool true))]
def ko68 (P : Params) : Obj := .mk (.type "tuple") none (.seq #[(.str (.ofString "self") 263), (.str (.ofString "part") 264)] 0) #[]
def ko71 (P : Params) : Obj := .mk (.type "code") none (.fields #[(.str (.ofString "__init__") 260), (.str (.ofString "NoJoining.__init__") 261), (.str (.ofString "/claim/cut.py") 262), (.int 12 0), (.int 2 0), (.int 0 0), (.int 0 0), (.int 3 0), (.ref 66), (.bool true), (.int 181 0), (.ref 67), .none, (.ref 68), (.ref 69), (.ref 70), (.int 265 0), (.int 12 0), (.str (.ofString "/claim/cut.py") 266)]) #[]
def ko72 (P : Params) : Obj := .mk (.type "function") none (.func (PySem.W.fnOf (.ofString "__init__") (.ofString "NoJoining.__init__") (defArgs (inClass (htop 4) 0)) (defBody (inClass (htop 4) 0)) (defScope (inClass (htop 4) 0)) .none .none .none (.str (.ofString "sheetback.errors") 187) none (.ref 71) .none)) #[]
def ko73 (P : Params) : Obj := .mk (.type "tuple") none (.seq #[(.str (.ofString "part") 268)] 0) #[]
def ko74 (P : Params) : Obj := .mk (.type "dict") none (.dict #[(.mk (PySem.PyData.keyHash P (.ofString "__module__")) (.str (.ofString "__module__") 255) (.str (.ofString "sheetback.errors") 187)), (.mk (PySem.PyData.keyHash P (.ofString "__firstlineno__")) (.str (.ofString "__firstlineno__") 259) (.int 10 258)), (.mk (PySem.PyData.keyHash P (.ofString "__init__")) (.str (.ofString "__init__") 267) (.ref 72)), (.mk (PySem.PyData.keyHash P (.ofString "__static_attributes__")) (.str (.ofString "__static_attributes__") 269) (.ref 73)), (.mk (PySem.PyData.keyHash P (.ofString "__doc__")) (.str (.ofString "__doc__") 270) .none)] 2) #[]
def ko75 (P : Params) : Obj := .mk (.type "type") none (.cls (.mk (.ofString "NoJoining") [(.ref 24)] [(.ref 75), (.ref 24), (.type "ValueError"), (.type "Exception"), (.type "BaseException"), (.type "object")] 74 (.ofString "NoJoining") true [] [] false none false)) #[(some (.ref 59)), none, (some (.str (.ofString "NoJoining") 248)), (some (.str (.ofString "NoJoining") 256)), (some (.builtin "ValueError.__new__")), (some (.bool true))]
def ko81 (P : Params) : Obj := .mk (.type "code") none (.fields #[(.str (.ofString "is_name") 279), (.str (.ofString "is_name") 280), (.str (.ofString "/claim/cut.py") 281), (.int 17 0), (.int 1 0), (.int 0 0), (.int 0 0), (.int 3 0), (.ref 78), (.bool true), (.int 181 0), (.ref 79), .none, .none, .none, (.ref 80), (.int 282 0), (.int 17 0), (.str (.ofString "/claim/cut.py") 283)]) #[]
def ko82 (P : Params) : Obj := .mk (.type "function") none (.func (PySem.W.fnOf (.ofString "is_name") (.ofString "is_name") (defArgs (htop 8)) (defBody (htop 8)) (defScope (htop 8)) .none .none .none (.str (.ofString "sheetback.names") 273) none (.ref 81) .none)) #[]
def ko85 (P : Params) : Obj := .mk (.type "tuple") none (.seq #[(.str (.ofString "thing") 288)] 0) #[]
def ko88 (P : Params) : Obj := .mk (.type "code") none (.fields #[(.str (.ofString "is_item") 285), (.str (.ofString "is_item") 286), (.str (.ofString "/claim/cut.py") 287), (.int 21 0), (.int 1 0), (.int 0 0), (.int 0 0), (.int 3 0), (.ref 83), (.bool true), (.int 181 0), (.ref 84), .none, (.ref 85), (.ref 86), (.ref 87), (.int 289 0), (.int 21 0), (.str (.ofString "/claim/cut.py") 290)]) #[]
def ko89 (P : Params) : Obj := .mk (.type "function") none (.func (PySem.W.fnOf (.ofString "is_item") (.ofString "is_item") (defArgs (htop 9)) (defBody (htop 9)) (defScope (htop 9)) .none .none .none (.str (.ofString "sheetback.names") 273) none (.ref 88) .none)) #[]
def ko92 (P : Params) : Obj := .mk (.type "tuple") none (.seq #[(.str (.ofString "things") 295)] 0) #[]
def ko95 (P : Params) : Obj := .mk (.type "code") none (.fields #[(.str (.ofString "are_distinct") 292), (.str (.ofString "are_distinct") 293), (.str (.ofString "/claim/cut.py") 294), (.int 23 0), (.int 1 0), (.int 0 0), (.int 0 0), (.int 3 0), (.ref 90), (.bool true), (.int 181 0), (.ref 91), .none, (.ref 92), (.ref 93), (.ref 94), (.int 296 0), (.int 23 0), (.str (.ofString "/claim/cut.py") 297)]) #[]
def ko96 (P : Params) : Obj := .mk (.type "function") none (.func (PySem.W.fnOf (.ofString "are_distinct") (.ofString "are_distinct") (defArgs (htop 10)) (defBody (htop 10)) (defScope (htop 10)) .none .none .none (.str (.ofString "sheetback.names") 273) none (.ref 95) .none)) #[]
def ko100 (P : Params) : Obj := .mk (.type "code") none (.fields #[(.str (.ofString "are_items") 299), (.str (.ofString "are_items") 300), (.str (.ofString "/claim/cut.py") 301), (.int 25 0), (.int 1 0), (.int 0 0), (.int 0 0), (.int 3 0), (.ref 97), (.bool true), (.int 181 0), (.ref 98), .none, .none, .none, (.ref 99), (.int 302 0), (.int 25 0), (.str (.ofString "/claim/cut.py") 303)]) #[]
def ko101 (P : Params) : Obj := .mk (.type "function") none (.func (PySem.W.fnOf (.ofString "are_items") (.ofString "are_items") (defArgs (htop 11)) (defBody (htop 11)) (defScope (htop 11)) .none .none .none (.str (.ofString "sheetback.names") 273) none (.ref 100) .none)) #[]
def ko102 (P : Params) : Obj := .mk (.type "tuple") none (.seq #[(.str (.ofString "keep") 307), (.str (.ofString "clear") 308)] 0) #[]
def ko103 (P : Params) : Obj := .mk (.type "tuple") none (.seq #[(.str (.ofString "all") 310), (.str (.ofString "first") 311), (.str (.ofString "none") 312), (.str (.ofString "refuse") 313)] 0) #[]
def ko104 (P : Params) : Obj := .mk (.type "tuple") none (.seq #[(.str (.ofString "skip") 315), (.str (.ofString "make") 316), (.str (.ofString "refuse") 317)] 0) #[]
def ko105 (P : Params) : Obj := .mk (.type "tuple") none (.seq #[(.str (.ofString "keep") 319), (.str (.ofString "drop") 320)] 0) #[]
def ko106 (P : Params) : Obj := .mk (.type "tuple") none (.seq #[(.str (.ofString "sent") 322), (.str (.ofString "all") 323)] 0) #[]
def ko109 (P : Params) : Obj := .mk (.type "tuple") none (.seq #[(.str (.ofString "thing") 328), (.str (.ofString "words") 329)] 0) #[]
def ko112 (P : Params) : Obj := .mk (.type "code") none (.fields #[(.str (.ofString "is_word") 325), (.str (.ofString "is_word") 326), (.str (.ofString "/claim/cut.py") 327), (.int 33 0), (.int 2 0), (.int 0 0), (.int 0 0), (.int 3 0), (.ref 107), (.bool true), (.int 181 0), (.ref 108), .none, (.ref 109), (.ref 110), (.ref 111), (.int 330 0), (.int 33 0), (.str (.ofString "/claim/cut.py") 331)]) #[]
def ko113 (P : Params) : Obj := .mk (.type "function") none (.func (PySem.W.fnOf (.ofString "is_word") (.ofString "is_word") (defArgs (htop 18)) (defBody (htop 18)) (defScope (htop 18)) .none .none .none (.str (.ofString "sheetback.rules") 305) none (.ref 112) .none)) #[]
def ko117 (P : Params) : Obj := .mk (.type "code") none (.fields #[(.str (.ofString "is_write") 333), (.str (.ofString "is_write") 334), (.str (.ofString "/claim/cut.py") 335), (.int 35 0), (.int 1 0), (.int 0 0), (.int 0 0), (.int 3 0), (.ref 114), (.bool true), (.int 181 0), (.ref 115), .none, .none, .none, (.ref 116), (.int 336 0), (.int 35 0), (.str (.ofString "/claim/cut.py") 337)]) #[]
def ko118 (P : Params) : Obj := .mk (.type "function") none (.func (PySem.W.fnOf (.ofString "is_write") (.ofString "is_write") (defArgs (htop 19)) (defBody (htop 19)) (defScope (htop 19)) .none .none .none (.str (.ofString "sheetback.rules") 305) none (.ref 117) .none)) #[]
def ko121 (P : Params) : Obj := .mk (.type "tuple") none (.seq #[(.str (.ofString "match") 342), (.str (.ofString "write") 343), (.str (.ofString "many") 344), (.str (.ofString "new") 345), (.str (.ofString "gone") 346), (.str (.ofString "guard") 347), (.str (.ofString "scope") 348), (.str (.ofString "part") 349), (.str (.ofString "word") 350), (.str (.ofString "words") 351)] 0) #[]
def ko124 (P : Params) : Obj := .mk (.type "code") none (.fields #[(.str (.ofString "wrong_part") 339), (.str (.ofString "wrong_part") 340), (.str (.ofString "/claim/cut.py") 341), (.int 44 0), (.int 7 0), (.int 0 0), (.int 0 0), (.int 3 0), (.ref 119), (.bool true), (.int 181 0), (.ref 120), .none, (.ref 121), (.ref 122), (.ref 123), (.int 352 0), (.int 44 0), (.str (.ofString "/claim/cut.py") 353)]) #[]
def ko125 (P : Params) : Obj := .mk (.type "function") none (.func (PySem.W.fnOf (.ofString "wrong_part") (.ofString "wrong_part") (defArgs (htop 20)) (defBody (htop 20)) (defScope (htop 20)) .none .none .none (.str (.ofString "sheetback.rules") 305) none (.ref 124) .none)) #[]
def ko133 (P : Params) : Obj := .mk (.type "tuple") none (.seq #[] 0) #[]
def ko134 (P : Params) : Obj := .mk (.type "tuple") none (.seq #[(.str (.ofString "refuse") 367), (.str (.ofString "refuse") 368), (.str (.ofString "keep") 369), (.ref 133), (.str (.ofString "sent") 370)] 0) #[]
def ko137 (P : Params) : Obj := .mk (.type "tuple") none (.seq #[(.str (.ofString "self") 374), (.str (.ofString "match") 375), (.str (.ofString "write") 376), (.str (.ofString "many") 377), (.str (.ofString "new") 378), (.str (.ofString "gone") 379), (.str (.ofString "guard") 380), (.str (.ofString "scope") 381), (.str (.ofString "part") 382)] 0) #[]
def ko140 (P : Params) : Obj := .mk (.type "code") none (.fields #[(.str (.ofString "__init__") 371), (.str (.ofString "Joining.__init__") 372), (.str (.ofString "/claim/cut.py") 373), (.int 57 0), (.int 8 0), (.int 0 0), (.int 0 0), (.int 3 0), (.ref 135), (.bool true), (.int 181 0), (.ref 136), .none, (.ref 137), (.ref 138), (.ref 139), (.int 383 0), (.int 57 0), (.str (.ofString "/claim/cut.py") 384)]) #[]
def ko141 (P : Params) : Obj := .mk (.type "function") none (.func (PySem.W.fnOf (.ofString "__init__") (.ofString "Joining.__init__") (defArgs (inClass (htop 21) 0)) (defBody (inClass (htop 21) 0)) (defScope (inClass (htop 21) 0)) (.ref 134) .none .none (.str (.ofString "sheetback.rules") 305) none (.ref 140) .none)) #[]
def ko144 (P : Params) : Obj := .mk (.type "tuple") none (.seq #[(.str (.ofString "self") 389)] 0) #[]
def ko147 (P : Params) : Obj := .mk (.type "code") none (.fields #[(.str (.ofString "parts") 386), (.str (.ofString "Joining.parts") 387), (.str (.ofString "/claim/cut.py") 388), (.int 63 0), (.int 1 0), (.int 0 0), (.int 0 0), (.int 3 0), (.ref 142), (.bool true), (.int 181 0), (.ref 143), .none, (.ref 144), (.ref 145), (.ref 146), (.int 390 0), (.int 63 0), (.str (.ofString "/claim/cut.py") 391)]) #[]
def ko148 (P : Params) : Obj := .mk (.type "function") none (.func (PySem.W.fnOf (.ofString "parts") (.ofString "Joining.parts") (defArgs (inClass (htop 21) 1)) (defBody (inClass (htop 21) 1)) (defScope (inClass (htop 21) 1)) .none .none .none (.str (.ofString "sheetback.rules") 305) none (.ref 147) .none)) #[]
def ko151 (P : Params) : Obj := .mk (.type "tuple") none (.seq #[(.str (.ofString "self") 396), (.str (.ofString "other") 397)] 0) #[]
def ko154 (P : Params) : Obj := .mk (.type "code") none (.fields #[(.str (.ofString "__eq__") 393), (.str (.ofString "Joining.__eq__") 394), (.str (.ofString "/claim/cut.py") 395), (.int 66 0), (.int 2 0), (.int 0 0), (.int 0 0), (.int 3 0), (.ref 149), (.bool true), (.int 181 0), (.ref 150), .none, (.ref 151), (.ref 152), (.ref 153), (.int 398 0), (.int 66 0), (.str (.ofString "/claim/cut.py") 399)]) #[]
def ko155 (P : Params) : Obj := .mk (.type "function") none (.func (PySem.W.fnOf (.ofString "__eq__") (.ofString "Joining.__eq__") (defArgs (inClass (htop 21) 2)) (defBody (inClass (htop 21) 2)) (defScope (inClass (htop 21) 2)) .none .none .none (.str (.ofString "sheetback.rules") 305) none (.ref 154) .none)) #[]
def ko156 (P : Params) : Obj := .mk (.type "tuple") none (.seq #[(.str (.ofString "held_parts") 401)] 0) #[]
def ko157 (P : Params) : Obj := .mk (.type "dict") none (.dict #[(.mk (PySem.PyData.keyHash P (.ofString "__module__")) (.str (.ofString "__module__") 362) (.str (.ofString "sheetback.rules") 305)), (.mk (PySem.PyData.keyHash P (.ofString "__firstlineno__")) (.str (.ofString "__firstlineno__") 366) (.int 55 365)), (.mk (PySem.PyData.keyHash P (.ofString "__init__")) (.str (.ofString "__init__") 385) (.ref 141)), (.mk (PySem.PyData.keyHash P (.ofString "parts")) (.str (.ofString "parts") 392) (.ref 148)), (.mk (PySem.PyData.keyHash P (.ofString "__eq__")) (.str (.ofString "__eq__") 400) (.ref 155)), (.mk (PySem.PyData.keyHash P (.ofString "__static_attributes__")) (.str (.ofString "__static_attributes__") 402) (.ref 156)), (.mk (PySem.PyData.keyHash P (.ofString "__dict__")) (.str (.ofString "__dict__") 404) (.ref 159)), (.mk (PySem.PyData.keyHash P (.ofString "__weakref__")) (.str (.ofString "__weakref__") 406) (.ref 160)), (.mk (PySem.PyData.keyHash P (.ofString "__doc__")) (.str (.ofString "__doc__") 407) .none), (.mk (PySem.PyData.keyHash P (.ofString "__hash__")) (.str (.ofString "__hash__") 408) .none)] 5) #[]
def ko158 (P : Params) : Obj := .mk (.type "type") none (.cls (.mk (.ofString "Joining") [(.type "object")] [(.ref 158), (.type "object")] 157 (.ofString "Joining") true [] [] false none false)) #[none, none, (some (.str (.ofString "Joining") 355)), (some (.str (.ofString "Joining") 363)), (some (.builtin "object.__new__")), (some (.bool true))]
def ko165 (P : Params) : Obj := .mk (.type "tuple") none (.seq #[(.str (.ofString "_law_script") 416), (.str (.ofString "_law_at") 417), (.str (.ofString "_law_cell") 418), (.str (.ofString "_law_near") 419)] 0) #[]
def ko168 (P : Params) : Obj := .mk (.type "code") none (.fields #[(.str (.ofString "_law_pot") 413), (.str (.ofString "_law_pot") 414), (.str (.ofString "/claim/cut.py") 415), (.int 69 0), (.int 2 0), (.int 0 0), (.int 0 0), (.int 3 0), (.ref 163), (.bool true), (.int 181 0), (.ref 164), .none, (.ref 165), (.ref 166), (.ref 167), (.int 420 0), (.int 69 0), (.str (.ofString "/claim/cut.py") 421)]) #[]
def ko169 (P : Params) : Obj := .mk (.type "function") none (.func (PySem.W.fnOf (.ofString "_law_pot") (.ofString "_law_pot") (defArgs (htop 23)) (defBody (htop 23)) (defScope (htop 23)) .none .none .none (.str (.ofString "law_sheetback_k22_joinings_refused") 411) none (.ref 168) .none)) #[]
def ko172 (P : Params) : Obj := .mk (.type "tuple") none (.seq #[(.str (.ofString "_law_pot_here") 426), (.str (.ofString "_law_below") 427), (.str (.ofString "_law_digit") 428), (.str (.ofString "_law_step") 429)] 0) #[]
def ko175 (P : Params) : Obj := .mk (.type "code") none (.fields #[(.str (.ofString "_law_draw") 423), (.str (.ofString "_law_draw") 424), (.str (.ofString "/claim/cut.py") 425), (.int 73 0), (.int 2 0), (.int 0 0), (.int 0 0), (.int 3 0), (.ref 170), (.bool true), (.int 181 0), (.ref 171), .none, (.ref 172), (.ref 173), (.ref 174), (.int 430 0), (.int 73 0), (.str (.ofString "/claim/cut.py") 431)]) #[]
def ko176 (P : Params) : Obj := .mk (.type "function") none (.func (PySem.W.fnOf (.ofString "_law_draw") (.ofString "_law_draw") (defArgs (htop 24)) (defBody (htop 24)) (defScope (htop 24)) .none .none .none (.str (.ofString "law_sheetback_k22_joinings_refused") 411) none (.ref 175) .none)) #[]
def ko179 (P : Params) : Obj := .mk (.type "tuple") none (.seq #[(.str (.ofString "_law_pot_here") 436), (.str (.ofString "_law_things") 437), (.str (.ofString "_law_many_here") 438), (.str (.ofString "_law_pool") 439), (.str (.ofString "_law_found") 440), (.str (.ofString "_law_k") 441)] 0) #[]
def ko182 (P : Params) : Obj := .mk (.type "code") none (.fields #[(.str (.ofString "_law_some") 433), (.str (.ofString "_law_some") 434), (.str (.ofString "/claim/cut.py") 435), (.int 82 0), (.int 3 0), (.int 0 0), (.int 0 0), (.int 3 0), (.ref 177), (.bool true), (.int 181 0), (.ref 178), .none, (.ref 179), (.ref 180), (.ref 181), (.int 442 0), (.int 82 0), (.str (.ofString "/claim/cut.py") 443)]) #[]
def ko183 (P : Params) : Obj := .mk (.type "function") none (.func (PySem.W.fnOf (.ofString "_law_some") (.ofString "_law_some") (defArgs (htop 25)) (defBody (htop 25)) (defScope (htop 25)) .none .none .none (.str (.ofString "law_sheetback_k22_joinings_refused") 411) none (.ref 182) .none)) #[]
def ko187 (P : Params) : Obj := .mk (.type "code") none (.fields #[(.str (.ofString "_law_names") 445), (.str (.ofString "_law_names") 446), (.str (.ofString "/claim/cut.py") 447), (.int 87 0), (.int 2 0), (.int 0 0), (.int 0 0), (.int 3 0), (.ref 184), (.bool true), (.int 181 0), (.ref 185), .none, .none, .none, (.ref 186), (.int 448 0), (.int 87 0), (.str (.ofString "/claim/cut.py") 449)]) #[]
def ko188 (P : Params) : Obj := .mk (.type "function") none (.func (PySem.W.fnOf (.ofString "_law_names") (.ofString "_law_names") (defArgs (htop 26)) (defBody (htop 26)) (defScope (htop 26)) .none .none .none (.str (.ofString "law_sheetback_k22_joinings_refused") 411) none (.ref 187) .none)) #[]
def ko192 (P : Params) : Obj := .mk (.type "code") none (.fields #[(.str (.ofString "_law_parts") 451), (.str (.ofString "_law_parts") 452), (.str (.ofString "/claim/cut.py") 453), (.int 98 0), (.int 3 0), (.int 0 0), (.int 0 0), (.int 3 0), (.ref 189), (.bool true), (.int 181 0), (.ref 190), .none, .none, .none, (.ref 191), (.int 454 0), (.int 98 0), (.str (.ofString "/claim/cut.py") 455)]) #[]
def ko193 (P : Params) : Obj := .mk (.type "function") none (.func (PySem.W.fnOf (.ofString "_law_parts") (.ofString "_law_parts") (defArgs (htop 27)) (defBody (htop 27)) (defScope (htop 27)) .none .none .none (.str (.ofString "law_sheetback_k22_joinings_refused") 411) none (.ref 192) .none)) #[]
def ko197 (P : Params) : Obj := .mk (.type "code") none (.fields #[(.str (.ofString "_law_is_names") 457), (.str (.ofString "_law_is_names") 458), (.str (.ofString "/claim/cut.py") 459), (.int 110 0), (.int 2 0), (.int 0 0), (.int 0 0), (.int 3 0), (.ref 194), (.bool true), (.int 181 0), (.ref 195), .none, .none, .none, (.ref 196), (.int 460 0), (.int 110 0), (.str (.ofString "/claim/cut.py") 461)]) #[]
def ko198 (P : Params) : Obj := .mk (.type "function") none (.func (PySem.W.fnOf (.ofString "_law_is_names") (.ofString "_law_is_names") (defArgs (htop 28)) (defBody (htop 28)) (defScope (htop 28)) .none .none .none (.str (.ofString "law_sheetback_k22_joinings_refused") 411) none (.ref 197) .none)) #[]
def ko202 (P : Params) : Obj := .mk (.type "code") none (.fields #[(.str (.ofString "_law_is_write") 463), (.str (.ofString "_law_is_write") 464), (.str (.ofString "/claim/cut.py") 465), (.int 120 0), (.int 1 0), (.int 0 0), (.int 0 0), (.int 3 0), (.ref 199), (.bool true), (.int 181 0), (.ref 200), .none, .none, .none, (.ref 201), (.int 466 0), (.int 120 0), (.str (.ofString "/claim/cut.py") 467)]) #[]
def ko203 (P : Params) : Obj := .mk (.type "function") none (.func (PySem.W.fnOf (.ofString "_law_is_write") (.ofString "_law_is_write") (defArgs (htop 29)) (defBody (htop 29)) (defScope (htop 29)) .none .none .none (.str (.ofString "law_sheetback_k22_joinings_refused") 411) none (.ref 202) .none)) #[]
def ko206 (P : Params) : Obj := .mk (.type "tuple") none (.seq #[(.str (.ofString "_law_parts_here") 472), (.str (.ofString "_law_by") 473), (.str (.ofString "_law_to") 474), (.str (.ofString "_law_which") 475), (.str (.ofString "_law_unmet") 476), (.str (.ofString "_law_left") 477), (.str (.ofString "_law_fresh") 478), (.str (.ofString "_law_where") 479)] 0) #[]
def ko209 (P : Params) : Obj := .mk (.type "code") none (.fields #[(.str (.ofString "_law_wrong") 469), (.str (.ofString "_law_wrong") 470), (.str (.ofString "/claim/cut.py") 471), (.int 126 0), (.int 1 0), (.int 0 0), (.int 0 0), (.int 3 0), (.ref 204), (.bool true), (.int 181 0), (.ref 205), .none, (.ref 206), (.ref 207), (.ref 208), (.int 480 0), (.int 126 0), (.str (.ofString "/claim/cut.py") 481)]) #[]
def ko210 (P : Params) : Obj := .mk (.type "function") none (.func (PySem.W.fnOf (.ofString "_law_wrong") (.ofString "_law_wrong") (defArgs (htop 30)) (defBody (htop 30)) (defScope (htop 30)) .none .none .none (.str (.ofString "law_sheetback_k22_joinings_refused") 411) none (.ref 209) .none)) #[]
def ko213 (P : Params) : Obj := .mk (.type "tuple") none (.seq #[(.str (.ofString "_law_pot_here") 486), (.str (.ofString "_law_place") 487), (.str (.ofString "_law_thing") 488), (.str (.ofString "_law_odd") 489), (.str (.ofString "_law_word") 490), (.str (.ofString "_law_k") 491), (.str (.ofString "_law_some_here") 492), (.str (.ofString "_law_name") 493), (.str (.ofString "_law_bads") 494), (.str (.ofString "_law_bad") 495)] 0) #[]
def ko216 (P : Params) : Obj := .mk (.type "code") none (.fields #[(.str (.ofString "_law_bent") 483), (.str (.ofString "_law_bent") 484), (.str (.ofString "/claim/cut.py") 485), (.int 141 0), (.int 3 0), (.int 0 0), (.int 0 0), (.int 3 0), (.ref 211), (.bool true), (.int 181 0), (.ref 212), .none, (.ref 213), (.ref 214), (.ref 215), (.int 496 0), (.int 141 0), (.str (.ofString "/claim/cut.py") 497)]) #[]
def ko217 (P : Params) : Obj := .mk (.type "function") none (.func (PySem.W.fnOf (.ofString "_law_bent") (.ofString "_law_bent") (defArgs (htop 31)) (defBody (htop 31)) (defScope (htop 31)) .none .none .none (.str (.ofString "law_sheetback_k22_joinings_refused") 411) none (.ref 216) .none)) #[]
def ko221 (P : Params) : Obj := .mk (.type "code") none (.fields #[(.str (.ofString "_law_same") 499), (.str (.ofString "_law_same") 500), (.str (.ofString "/claim/cut.py") 501), (.int 155 0), (.int 2 0), (.int 0 0), (.int 0 0), (.int 3 0), (.ref 218), (.bool true), (.int 181 0), (.ref 219), .none, .none, .none, (.ref 220), (.int 502 0), (.int 155 0), (.str (.ofString "/claim/cut.py") 503)]) #[]
def ko222 (P : Params) : Obj := .mk (.type "function") none (.func (PySem.W.fnOf (.ofString "_law_same") (.ofString "_law_same") (defArgs (htop 32)) (defBody (htop 32)) (defScope (htop 32)) .none .none .none (.str (.ofString "law_sheetback_k22_joinings_refused") 411) none (.ref 221) .none)) #[]
def ko225 (P : Params) : Obj := .mk (.type "tuple") none (.seq #[(.str (.ofString "_law_thing") 508), (.str (.ofString "_law_kind") 509)] 0) #[]
def ko228 (P : Params) : Obj := .mk (.type "code") none (.fields #[(.str (.ofString "_law_is") 505), (.str (.ofString "_law_is") 506), (.str (.ofString "/claim/cut.py") 507), (.int 166 0), (.int 2 0), (.int 0 0), (.int 0 0), (.int 3 0), (.ref 223), (.bool true), (.int 181 0), (.ref 224), .none, (.ref 225), (.ref 226), (.ref 227), (.int 510 0), (.int 166 0), (.str (.ofString "/claim/cut.py") 511)]) #[]
def ko229 (P : Params) : Obj := .mk (.type "function") none (.func (PySem.W.fnOf (.ofString "_law_is") (.ofString "_law_is") (defArgs (htop 33)) (defBody (htop 33)) (defScope (htop 33)) .none .none .none (.str (.ofString "law_sheetback_k22_joinings_refused") 411) none (.ref 228) .none)) #[]
def ko232 (P : Params) : Obj := .mk (.type "tuple") none (.seq #[(.str (.ofString "_law_parts_here") 516), (.str (.ofString "_law_by") 517), (.str (.ofString "_law_to") 518), (.str (.ofString "_law_which") 519), (.str (.ofString "_law_unmet") 520), (.str (.ofString "_law_left") 521), (.str (.ofString "_law_fresh") 522), (.str (.ofString "_law_where") 523)] 0) #[]
def ko235 (P : Params) : Obj := .mk (.type "code") none (.fields #[(.str (.ofString "_law_plain") 513), (.str (.ofString "_law_plain") 514), (.str (.ofString "/claim/cut.py") 515), (.int 172 0), (.int 1 0), (.int 0 0), (.int 0 0), (.int 3 0), (.ref 230), (.bool true), (.int 181 0), (.ref 231), .none, (.ref 232), (.ref 233), (.ref 234), (.int 524 0), (.int 172 0), (.str (.ofString "/claim/cut.py") 525)]) #[]
def ko236 (P : Params) : Obj := .mk (.type "function") none (.func (PySem.W.fnOf (.ofString "_law_plain") (.ofString "_law_plain") (defArgs (htop 34)) (defBody (htop 34)) (defScope (htop 34)) .none .none .none (.str (.ofString "law_sheetback_k22_joinings_refused") 411) none (.ref 235) .none)) #[]
def ko239 (P : Params) : Obj := .mk (.type "tuple") none (.seq #[(.str (.ofString "_law_parts_here") 530), (.str (.ofString "_law_by") 531), (.str (.ofString "_law_to") 532), (.str (.ofString "_law_which") 533), (.str (.ofString "_law_unmet") 534), (.str (.ofString "_law_left") 535), (.str (.ofString "_law_fresh") 536), (.str (.ofString "_law_where") 537)] 0) #[]
def ko242 (P : Params) : Obj := .mk (.type "code") none (.fields #[(.str (.ofString "_law_by_name") 527), (.str (.ofString "_law_by_name") 528), (.str (.ofString "/claim/cut.py") 529), (.int 175 0), (.int 1 0), (.int 0 0), (.int 0 0), (.int 3 0), (.ref 237), (.bool true), (.int 181 0), (.ref 238), .none, (.ref 239), (.ref 240), (.ref 241), (.int 538 0), (.int 175 0), (.str (.ofString "/claim/cut.py") 539)]) #[]
def ko243 (P : Params) : Obj := .mk (.type "function") none (.func (PySem.W.fnOf (.ofString "_law_by_name") (.ofString "_law_by_name") (defArgs (htop 35)) (defBody (htop 35)) (defScope (htop 35)) .none .none .none (.str (.ofString "law_sheetback_k22_joinings_refused") 411) none (.ref 242) .none)) #[]
def ko246 (P : Params) : Obj := .mk (.type "tuple") none (.seq #[(.str (.ofString "_law_parts_here") 544), (.str (.ofString "_law_by_name_here") 545), (.str (.ofString "_law_made_here") 546), (.str (.ofString "_law_told") 547), (.str (.ofString "_law_right") 548), (.str (.ofString "e") 549)] 0) #[]
def ko249 (P : Params) : Obj := .mk (.type "code") none (.fields #[(.str (.ofString "_law_made") 541), (.str (.ofString "_law_made") 542), (.str (.ofString "/claim/cut.py") 543), (.int 178 0), (.int 2 0), (.int 0 0), (.int 0 0), (.int 3 0), (.ref 244), (.bool true), (.int 181 0), (.ref 245), .none, (.ref 246), (.ref 247), (.ref 248), (.int 550 0), (.int 178 0), (.str (.ofString "/claim/cut.py") 551)]) #[]
def ko250 (P : Params) : Obj := .mk (.type "function") none (.func (PySem.W.fnOf (.ofString "_law_made") (.ofString "_law_made") (defArgs (htop 36)) (defBody (htop 36)) (defScope (htop 36)) .none .none .none (.str (.ofString "law_sheetback_k22_joinings_refused") 411) none (.ref 249) .none)) #[]
def ko253 (P : Params) : Obj := .mk (.type "tuple") none (.seq #[(.str (.ofString "_law_parts_here") 556), (.str (.ofString "_law_one") 557), (.str (.ofString "_law_other") 558), (.str (.ofString "_law_found") 559), (.str (.ofString "_law_menus") 560), (.str (.ofString "_law_k") 561), (.str (.ofString "_law_first") 562), (.str (.ofString "_law_second") 563), (.str (.ofString "_law_other_part") 564), (.str (.ofString "_law_odd") 565), (.str (.ofString "_law_by") 566), (.str (.ofString "_law_to") 567), (.str (.ofString "_law_due") 568)] 0) #[]
def ko256 (P : Params) : Obj := .mk (.type "code") none (.fields #[(.str (.ofString "_law_equal_right") 553), (.str (.ofString "_law_equal_right") 554), (.str (.ofString "/claim/cut.py") 555), (.int 186 0), (.int 1 0), (.int 0 0), (.int 0 0), (.int 3 0), (.ref 251), (.bool true), (.int 181 0), (.ref 252), .none, (.ref 253), (.ref 254), (.ref 255), (.int 569 0), (.int 186 0), (.str (.ofString "/claim/cut.py") 570)]) #[]
def ko257 (P : Params) : Obj := .mk (.type "function") none (.func (PySem.W.fnOf (.ofString "_law_equal_right") (.ofString "_law_equal_right") (defArgs (htop 37)) (defBody (htop 37)) (defScope (htop 37)) .none .none .none (.str (.ofString "law_sheetback_k22_joinings_refused") 411) none (.ref 256) .none)) #[]
def ko260 (P : Params) : Obj := .mk (.type "tuple") none (.seq #[(.str (.ofString "_law_script") 575), (.str (.ofString "_law_at") 576), (.str (.ofString "_law_pot_here") 577), (.str (.ofString "_law_names_here") 578), (.str (.ofString "_law_place") 579), (.str (.ofString "_law_parts_here") 580), (.str (.ofString "_law_turn") 581), (.str (.ofString "_law_bad") 582), (.str (.ofString "_law_step") 583), (.str (.ofString "_law_due") 584), (.str (.ofString "_law_by_name_here") 585), (.str (.ofString "_law_made_here") 586), (.str (.ofString "_law_told") 587), (.str (.ofString "_law_right") 588)] 0) #[]
def ko263 (P : Params) : Obj := .mk (.type "code") none (.fields #[(.str (.ofString "law") 572), (.str (.ofString "law") 573), (.str (.ofString "/claim/cut.py") 574), (.int 203 0), (.int 1 0), (.int 0 0), (.int 0 0), (.int 3 0), (.ref 258), (.bool true), (.int 181 0), (.ref 259), .none, (.ref 260), (.ref 261), (.ref 262), (.int 589 0), (.int 203 0), (.str (.ofString "/claim/cut.py") 590)]) #[]
def ko264 (P : Params) : Obj := .mk (.type "function") none (.func (PySem.W.fnOf (.ofString "law") (.ofString "law") (defArgs (htop 38)) (defBody (htop 38)) (defScope (htop 38)) .none .none .none (.str (.ofString "law_sheetback_k22_joinings_refused") 411) none (.ref 263) .none)) #[]
def K0 (P : Params) : PySem.W.Frag := (nat_lit 2, ko2 P) :: (nat_lit 3, ko3 P) :: (nat_lit 23, ko23 P) :: (nat_lit 24, ko24 P) :: (nat_lit 36, ko36 P) :: (nat_lit 37, ko37 P) :: (nat_lit 49, ko49 P) :: (nat_lit 52, ko52 P) :: (nat_lit 53, ko53 P) :: (nat_lit 54, ko54 P) :: (nat_lit 55, ko55 P) :: (nat_lit 56, ko56 P) :: (nat_lit 68, ko68 P) :: (nat_lit 71, ko71 P) :: (nat_lit 72, ko72 P) :: (nat_lit 73, ko73 P) :: (nat_lit 74, ko74 P) :: (nat_lit 75, ko75 P) :: (nat_lit 81, ko81 P) :: (nat_lit 82, ko82 P) :: (nat_lit 85, ko85 P) :: (nat_lit 88, ko88 P) :: (nat_lit 89, ko89 P) :: (nat_lit 92, ko92 P) :: (nat_lit 95, ko95 P) :: (nat_lit 96, ko96 P) :: (nat_lit 100, ko100 P) :: (nat_lit 101, ko101 P) :: (nat_lit 102, ko102 P) :: (nat_lit 103, ko103 P) :: (nat_lit 104, ko104 P) :: (nat_lit 105, ko105 P) :: (nat_lit 106, ko106 P) :: (nat_lit 109, ko109 P) :: (nat_lit 112, ko112 P) :: (nat_lit 113, ko113 P) :: (nat_lit 117, ko117 P) :: (nat_lit 118, ko118 P) :: (nat_lit 121, ko121 P) :: (nat_lit 124, ko124 P) :: (nat_lit 125, ko125 P) :: (nat_lit 133, ko133 P) :: (nat_lit 134, ko134 P) :: (nat_lit 137, ko137 P) :: (nat_lit 140, ko140 P) :: (nat_lit 141, ko141 P) :: (nat_lit 144, ko144 P) :: (nat_lit 147, ko147 P) :: (nat_lit 148, ko148 P) :: (nat_lit 151, ko151 P) :: (nat_lit 154, ko154 P) :: (nat_lit 155, ko155 P) :: (nat_lit 156, ko156 P) :: (nat_lit 157, ko157 P) :: (nat_lit 158, ko158 P) :: (nat_lit 165, ko165 P) :: (nat_lit 168, ko168 P) :: (nat_lit 169, ko169 P) :: (nat_lit 172, ko172 P) :: (nat_lit 175, ko175 P) :: (nat_lit 176, ko176 P) :: (nat_lit 179, ko179 P) :: (nat_lit 182, ko182 P) :: (nat_lit 183, ko183 P) :: (nat_lit 187, ko187 P) :: (nat_lit 188, ko188 P) :: (nat_lit 192, ko192 P) :: (nat_lit 193, ko193 P) :: (nat_lit 197, ko197 P) :: (nat_lit 198, ko198 P) :: (nat_lit 202, ko202 P) :: (nat_lit 203, ko203 P) :: (nat_lit 206, ko206 P) :: (nat_lit 209, ko209 P) :: (nat_lit 210, ko210 P) :: (nat_lit 213, ko213 P) :: (nat_lit 216, ko216 P) :: (nat_lit 217, ko217 P) :: (nat_lit 221, ko221 P) :: (nat_lit 222, ko222 P) :: (nat_lit 225, ko225 P) :: (nat_lit 228, ko228 P) :: (nat_lit 229, ko229 P) :: (nat_lit 232, ko232 P) :: (nat_lit 235, ko235 P) :: (nat_lit 236, ko236 P) :: (nat_lit 239, ko239 P) :: (nat_lit 242, ko242 P) :: (nat_lit 243, ko243 P) :: (nat_lit 246, ko246 P) :: (nat_lit 249, ko249 P) :: (nat_lit 250, ko250 P) :: (nat_lit 253, ko253 P) :: (nat_lit 256, ko256 P) :: (nat_lit 257, ko257 P) :: (nat_lit 260, ko260 P) :: (nat_lit 263, ko263 P) :: (nat_lit 264, ko264 P) :: []
abbrev A0 : List Nat := nat_lit 2 :: nat_lit 3 :: nat_lit 23 :: nat_lit 24 :: nat_lit 36 :: nat_lit 37 :: nat_lit 49 :: nat_lit 52 :: nat_lit 53 :: nat_lit 54 :: nat_lit 55 :: nat_lit 56 :: nat_lit 68 :: nat_lit 71 :: nat_lit 72 :: nat_lit 73 :: nat_lit 74 :: nat_lit 75 :: nat_lit 81 :: nat_lit 82 :: nat_lit 85 :: nat_lit 88 :: nat_lit 89 :: nat_lit 92 :: nat_lit 95 :: nat_lit 96 :: nat_lit 100 :: nat_lit 101 :: nat_lit 102 :: nat_lit 103 :: nat_lit 104 :: nat_lit 105 :: nat_lit 106 :: nat_lit 109 :: nat_lit 112 :: nat_lit 113 :: nat_lit 117 :: nat_lit 118 :: nat_lit 121 :: nat_lit 124 :: nat_lit 125 :: nat_lit 133 :: nat_lit 134 :: nat_lit 137 :: nat_lit 140 :: nat_lit 141 :: nat_lit 144 :: nat_lit 147 :: nat_lit 148 :: nat_lit 151 :: nat_lit 154 :: nat_lit 155 :: nat_lit 156 :: nat_lit 157 :: nat_lit 158 :: nat_lit 165 :: nat_lit 168 :: nat_lit 169 :: nat_lit 172 :: nat_lit 175 :: nat_lit 176 :: nat_lit 179 :: nat_lit 182 :: nat_lit 183 :: nat_lit 187 :: nat_lit 188 :: nat_lit 192 :: nat_lit 193 :: nat_lit 197 :: nat_lit 198 :: nat_lit 202 :: nat_lit 203 :: nat_lit 206 :: nat_lit 209 :: nat_lit 210 :: nat_lit 213 :: nat_lit 216 :: nat_lit 217 :: nat_lit 221 :: nat_lit 222 :: nat_lit 225 :: nat_lit 228 :: nat_lit 229 :: nat_lit 232 :: nat_lit 235 :: nat_lit 236 :: nat_lit 239 :: nat_lit 242 :: nat_lit 243 :: nat_lit 246 :: nat_lit 249 :: nat_lit 250 :: nat_lit 253 :: nat_lit 256 :: nat_lit 257 :: nat_lit 260 :: nat_lit 263 :: nat_lit 264 :: []
def viewq : Program := { PySem.Challenge.pw_sheetback_k22_joinings_refused with main := { PySem.Challenge.pw_sheetback_k22_joinings_refused.main with body := htop 1 :: htop 2 :: htop 3 :: htop 4 :: htop 6 :: htop 7 :: htop 8 :: htop 9 :: htop 10 :: htop 11 :: htop 13 :: htop 14 :: htop 15 :: htop 16 :: htop 17 :: htop 18 :: htop 19 :: htop 20 :: htop 21 :: htop 23 :: htop 24 :: htop 25 :: htop 26 :: htop 27 :: htop 28 :: htop 29 :: htop 30 :: htop 31 :: htop 32 :: htop 33 :: htop 34 :: htop 35 :: htop 36 :: htop 37 :: htop 38 :: [] } }
def loose : List PySem.Str := (PySem.Str.ofString "Joining") :: []
def readc : List (PySem.Str × WData) :=  []
def lawd : DefRec := { name := (PySem.Str.ofString "law"), params := defArgs (htop 38), body := defBody (htop 38), scope := defScope (htop 38), pos := ⟨203, 0, 224, 15⟩ }
abbrev hk := PySem.W.kHook K0 A0 (fun _ => rfl)
def HC : Prop := WalkO viewq loose (XL viewq readc) (PySem.W.Hook.says hk) PySem.Challenge.rw_sheetback_k22_joinings_refused.row.toRowW lawd [] (fun f vs => PySem.call f vs)
theorem left : LeftO PySem.Challenge.rw_sheetback_k22_joinings_refused.row.toRowW.prog viewq loose (fun s => xlAt viewq readc s && recOk (RowW.records PySem.Challenge.rw_sheetback_k22_joinings_refused.row.toRowW) s) (PySem.W.Hook.obs hk) (PySem.W.Hook.val hk) 4898 true := by
  refine HeadRun.left_oneK (M := 4198) (by kernel_rfl) (by rfl) (fun s => by kernel_rfl) (by rfl) ?_
  intro w os; kernel_rfl
theorem headed (hc : HC) : PySem.Challenge.rw_sheetback_k22_joinings_refused.Holds := by
  w_on; o_law
  refine holds_open (q := viewq) (loose := loose) (Xt := fun s => xlAt viewq readc s && recOk (RowW.records PySem.Challenge.rw_sheetback_k22_joinings_refused.row.toRowW) s) (XP := XL viewq readc) (Yf := PySem.W.Hook.obs hk) (Ya := PySem.W.Hook.val hk) (YP := PySem.W.Hook.says hk) (N := 4898) (d := lawd) (kwd := []) left (PySem.W.Hook.of hk) (PySem.W.Hook.keeps hk) (fun s e => xl_of s (Bool.and_eq_true_iff.mp e).1) XL.keeps (by kernel_rfl) (by kernel_rfl) (by kernel_rfl) (fun s e => recFacts_of (Bool.and_eq_true_iff.mp e).2) (by rfl) (by first | assumption | decide +kernel) (by decide +kernel) ⟨rfl, rfl, rfl, rfl, rfl, by decide +kernel⟩ ?hw hc
  w_witness2
end Law
/-! Tr: values as trees, and what each construct of Python does with them: plain Lean functions, no heap.
A mutable node (list, dict, set, instance) has a flag w: true says that nothing else holds it (it may be written). -/
set_option autoImplicit false
namespace Tr
open PySem (Str)
abbrev Key := Sum Int Str
inductive PV where
  | non | bl (b : Bool) | int (i : Int) | str (x : Str)
  | tup (xs : List PV)
  | lst (w : Bool) (xs : List PV)
  | dct (w : Bool) (ks : List Key) (vs : List PV)
  | ins (w : Bool) (c : Nat) (vs : List PV)
  | con (k : Nat)
  | exc (k : Nat) (vs : List PV)
  | st (w : Bool) (xs : List PV)
  deriving Inhabited
/-- the keys of sets: tuples of ints and None -/
abbrev CK := List (Option Int)
def ckP : List PV → Option CK
  | [] => some []
  | .non :: xs => (ckP xs).map (none :: ·)
  | .int i :: xs => (ckP xs).map (some i :: ·)
  | _ => none
def cksP : List PV → Option (List CK)
  | [] => some []
  | .tup cs :: xs => (ckP cs).bind fun k => (cksP xs).map (k :: ·)
  | _ => none
mutual
/-- no node that may be written within -/
def fro : PV → Bool
  | .tup xs => fros xs
  | .lst w xs => !w && fros xs
  | .dct w _ vs => !w && fros vs
  | .ins w _ vs => !w && fros vs
  | .non => true | .bl _ => true | .int _ => true | .str _ => true | .con _ => true
  | .exc _ vs => fros vs
  | .st w xs => !w && fros xs
def fros : List PV → Bool
  | [] => true
  | x :: xs => fro x && fros xs
end
mutual
/-- from now on nothing within is written -/
def frz : PV → PV
  | .tup xs => .tup (frzs xs)
  | .lst _ xs => .lst false (frzs xs)
  | .dct _ ks vs => .dct false ks (frzs vs)
  | .ins _ c vs => .ins false c (frzs vs)
  | .non => .non | .bl b => .bl b | .int i => .int i | .str x => .str x | .con k => .con k
  | .exc k vs => .exc k (frzs vs)
  | .st _ xs => .st false (frzs xs)
def frzs : List PV → List PV
  | [] => []
  | x :: xs => frz x :: frzs xs
end
theorem fros_eq (xs : List PV) : fros xs = xs.all fro := by
  induction xs with
  | nil => rfl
  | cons x xs ih => simp [fros, ih]
theorem frzs_eq (xs : List PV) : frzs xs = xs.map frz := by
  induction xs with
  | nil => rfl
  | cons x xs ih => simp [frzs, ih]
mutual
theorem frz_of_fro : ∀ {v : PV}, fro v = true → frz v = v
  | .tup xs, h => by rw [fro] at h; rw [frz, frzs_of_fros h]
  | .lst w xs, h => by
    rw [fro] at h; simp only [Bool.and_eq_true, Bool.not_eq_true'] at h
    rw [frz, frzs_of_fros h.2, h.1]
  | .dct w ks vs, h => by
    rw [fro] at h; simp only [Bool.and_eq_true, Bool.not_eq_true'] at h
    rw [frz, frzs_of_fros h.2, h.1]
  | .ins w c vs, h => by
    rw [fro] at h; simp only [Bool.and_eq_true, Bool.not_eq_true'] at h
    rw [frz, frzs_of_fros h.2, h.1]
  | .non, _ => rfl | .bl _, _ => rfl | .int _, _ => rfl | .str _, _ => rfl | .con _, _ => rfl
  | .exc k vs, h => by rw [fro] at h; rw [frz, frzs_of_fros h]
  | .st w xs, h => by
    rw [fro] at h; simp only [Bool.and_eq_true, Bool.not_eq_true'] at h
    rw [frz, frzs_of_fros h.2, h.1]
theorem frzs_of_fros : ∀ {xs : List PV}, fros xs = true → frzs xs = xs
  | [], _ => rfl
  | x :: xs, h => by
    rw [fros] at h; simp only [Bool.and_eq_true] at h
    rw [frzs, frz_of_fro h.1, frzs_of_fros h.2]
end
mutual
theorem fro_frz : ∀ (v : PV), fro (frz v) = true
  | .tup xs => by rw [frz, fro]; exact fros_frzs xs
  | .lst w xs => by rw [frz, fro]; simp [fros_frzs xs]
  | .dct w ks vs => by rw [frz, fro]; simp [fros_frzs vs]
  | .ins w c vs => by rw [frz, fro]; simp [fros_frzs vs]
  | .non => rfl | .bl _ => rfl | .int _ => rfl | .str _ => rfl | .con _ => rfl
  | .exc k vs => by rw [frz, fro]; exact fros_frzs vs
  | .st w xs => by rw [frz, fro]; simp [fros_frzs xs]
theorem fros_frzs : ∀ (xs : List PV), fros (frzs xs) = true
  | [] => rfl
  | x :: xs => by rw [frzs, fros, fro_frz x, fros_frzs xs]; rfl
end
/-- the slots of a def -/
abbrev Env := List (Option PV)
/-- an exception: its class, its fields -/
structure PExc where
  cls : Nat
  vals : List PV
inductive Res (α : Type) where
  | ok (a : α) (ρ : Env)
  | er (e : PExc) (ρ : Env)
  | bad
def Res.bind {α β : Type} (r : Res α) (k : α → Env → Res β) : Res β := match r with
  | .ok a ρ => k a ρ
  | .er e ρ => .er e ρ
  | .bad => .bad
@[simp] theorem Res.bind_ok {α β : Type} (a : α) (ρ : Env) (k : α → Env → Res β) : Res.bind (.ok a ρ) k = k a ρ := rfl
@[simp] theorem Res.bind_er {α β : Type} (e : PExc) (ρ : Env) (k : α → Env → Res β) : Res.bind (.er e ρ) k = .er e ρ := rfl
@[simp] theorem Res.bind_bad {α β : Type} (k : α → Env → Res β) : Res.bind .bad k = .bad := rfl
/-- a value that is asked for: none is bad -/
def Res.of {α : Type} (o : Option α) (ρ : Env) : Res α := match o with
  | some a => .ok a ρ
  | none => .bad
@[simp] theorem Res.of_some {α : Type} (a : α) (ρ : Env) : Res.of (some a) ρ = .ok a ρ := rfl
@[simp] theorem Res.of_none {α : Type} (ρ : Env) : (Res.of none ρ : Res α) = .bad := rfl
abbrev EF := Env → Res PV
abbrev TF := Env → Res Bool
inductive SR where
  | nx (ρ : Env) | rt (v : PV) (ρ : Env) | bk (ρ : Env) | ct (ρ : Env) | er (e : PExc) (ρ : Env) | bad
abbrev SF := Env → SR
inductive FR where
  | ok (v : PV) (as : List PV) | er (e : PExc) (as : List PV) | bad
abbrev FF := List PV → FR
/-! ### operands: a name that is only looked at, or an expression -/
inductive Opd where
  | nm (i : Nat)
  | ev (f : EF)
def slot (ρ : Env) (i : Nat) : Option PV := (ρ[i]?).join
def Opd.go (o : Opd) (ρ : Env) : Res (Option PV) := match o with
  | .nm i => match slot ρ i with
    | some _ => .ok none ρ
    | none => .bad
  | .ev f => (f ρ).bind fun v ρ1 => .ok (some v) ρ1
def Opd.get (o : Opd) (t : Option PV) (ρ : Env) : Option PV := match o with
  | .nm i => slot ρ i
  | .ev _ => t
/-- one operand, looked at: what comes of it is atomic or new -/
def op1 {β : Type} (a : Opd) (k : PV → Option β) (ρ : Env) : Res β :=
  (a.go ρ).bind fun t ρ1 => .of ((a.get t ρ1).bind k) ρ1
def op2 {β : Type} (a b : Opd) (k : PV → PV → Option β) (ρ : Env) : Res β :=
  (a.go ρ).bind fun t ρ1 => (b.go ρ1).bind fun u ρ2 => .of ((a.get t ρ2).bind fun v => (b.get u ρ2).bind fun w => k v w) ρ2
/-! ### expressions -/
def eC (v : PV) : EF := fun ρ => .ok v ρ
/-- a name as a value: its slot is held twice from now on, so nothing within is written -/
def eNm (i : Nat) : EF := fun ρ => match slot ρ i with
  | some v => .ok (frz v) (ρ.set i (some (frz v)))
  | none => .bad
/-- a name for the last time (return x): its slot is given away -/
def eMv (i : Nat) : EF := fun ρ => match slot ρ i with
  | some v => .ok v (ρ.set i none)
  | none => .bad
/-- arguments, from the left -/
abbrev AF := Env → Res (List PV)
def aNil : AF := fun ρ => .ok [] ρ
def aCons (f : EF) (g : AF) : AF := fun ρ => (f ρ).bind fun v ρ1 => (g ρ1).bind fun vs ρ2 => .ok (v :: vs) ρ2
def eTup (g : AF) : EF := fun ρ => (g ρ).bind fun vs ρ1 => .ok (.tup vs) ρ1
def eLst (g : AF) : EF := fun ρ => (g ρ).bind fun vs ρ1 => .ok (.lst true vs) ρ1
/-- a test's answer as a value -/
def eT (t : TF) : EF := fun ρ => (t ρ).bind fun b ρ1 => .ok (.bl b) ρ1
def tE (f : EF) : TF := fun ρ => (f ρ).bind fun v ρ1 => match v with
  | .bl b => .ok b ρ1
  | _ => .bad
def tNot (t : TF) : TF := fun ρ => (t ρ).bind fun b ρ1 => .ok (!b) ρ1
def tAnd (t u : TF) : TF := fun ρ => (t ρ).bind fun b ρ1 => if b = true then u ρ1 else .ok false ρ1
def tOr (t u : TF) : TF := fun ρ => (t ρ).bind fun b ρ1 => if b = true then .ok true ρ1 else u ρ1
def eIf (t : TF) (f g : EF) : EF := fun ρ => (t ρ).bind fun b ρ1 => if b = true then f ρ1 else g ρ1
/-! ### statements -/
def sNx : SF := fun ρ => .nx ρ
def sSeq (s u : SF) : SF := fun ρ => match s ρ with
  | .nx ρ1 => u ρ1
  | r => r
def sOf {α : Type} (r : Res α) (k : α → Env → SR) : SR := match r with
  | .ok a ρ => k a ρ
  | .er e ρ => .er e ρ
  | .bad => .bad
@[simp] theorem sOf_ok {α : Type} (a : α) (ρ : Env) (k : α → Env → SR) : sOf (.ok a ρ) k = k a ρ := rfl
@[simp] theorem sOf_er {α : Type} (e : PExc) (ρ : Env) (k : α → Env → SR) : sOf (.er e ρ : Res α) k = .er e ρ := rfl
@[simp] theorem sOf_bad {α : Type} (k : α → Env → SR) : sOf (.bad : Res α) k = .bad := rfl
def sDo (f : EF) : SF := fun ρ => sOf (f ρ) fun _ ρ1 => .nx ρ1
def sRet (f : EF) : SF := fun ρ => sOf (f ρ) fun v ρ1 => .rt v ρ1
def sIf (t : TF) (a b : SF) : SF := fun ρ => sOf (t ρ) fun c ρ1 => if c = true then a ρ1 else b ρ1
def sSet (i : Nat) (f : EF) : SF := fun ρ => sOf (f ρ) fun v ρ1 => .nx (ρ1.set i (some v))
/-! ### a def -/
/-- what its arguments are behind it: a parameter that is never stored to is what its slot holds; else nothing may be written within -/
def outs : List Bool → List PV → Env → Option (List PV)
  | [], [], _ => some []
  | true :: fx, _ :: as, some v :: ρ => (outs fx as ρ).map (v :: ·)
  | false :: fx, a :: as, _ :: ρ => if fro a = true then (outs fx as ρ).map (a :: ·) else none
  | _, _, _ => none
def fin (fx : List Bool) (as : List PV) (v : PV) (ρ : Env) : FR := match outs fx as ρ with
  | some as' => .ok v as'
  | none => .bad
def finE (fx : List Bool) (as : List PV) (e : PExc) (ρ : Env) : FR := match outs fx as ρ with
  | some as' => .er e as'
  | none => .bad
/-- n slots; fx: for each parameter whether it is never stored to -/
def mk (fx : List Bool) (n : Nat) (body : SF) : FF := fun as =>
  if as.length = fx.length then
    match body (as.map some ++ List.replicate (n - fx.length) none) with
    | .nx ρ => fin fx as .non ρ
    | .rt v ρ => fin fx as v ρ
    | .er e ρ => finE fx as e ρ
    | _ => .bad
  else .bad
end Tr
/-! Tr: what the operators and built-ins yield on trees. none: not served. -/
set_option autoImplicit false
namespace Tr
open PySem (Str)
/-- the longest text, list, tuple -/
abbrev big : Nat := 16777216
def sOk (x : Str) : Bool := decide (x.length ≤ big) && x.cps.all (· < 0x110000)
def b2i (b : Bool) : Int := if b then 1 else 0
/-! ### allI -/
def mulOk (i j : Int) : Bool := decide (i.natAbs.log2 + j.natAbs.log2 < 100000000)
def divOk (j : Int) : Bool := decide (0 < j) && decide (j.natAbs.log2 < 9000)
def powOk (i j : Int) : Bool := decide (0 ≤ j) && decide (((i.natAbs.log2 + 1 : Nat) : Int) * j ≤ 134217728)
def bAdd : PV → PV → Option PV
  | .int i, .int j => some (.int (i + j))
  | .str x, .str y => if x.length + y.length ≤ big then some (.str (x ++ y)) else none
  | .lst _ xs, .lst _ ys => if fros xs && fros ys && decide (xs.length + ys.length ≤ big) then some (.lst true (xs ++ ys)) else none
  | .tup xs, .tup ys => if fros xs && fros ys && decide (xs.length + ys.length ≤ big) then some (.tup (xs ++ ys)) else none
  | _, _ => none
def bSub : PV → PV → Option PV
  | .int i, .int j => some (.int (i - j))
  | _, _ => none
def bMul : PV → PV → Option PV
  | .int i, .int j => if mulOk i j then some (.int (i * j)) else none
  | .str x, .int k => if decide (0 ≤ k) && decide (k ≤ 1000000) && decide (x.length * k.toNat ≤ big) then some (.str ⟨(List.replicate k.toNat x.cps.toList).flatten.toArray⟩) else none
  | _, _ => none
def bDiv : PV → PV → Option PV
  | .int i, .int j => if divOk j then some (.int (i / j)) else none
  | _, _ => none
def bMod : PV → PV → Option PV
  | .int i, .int j => if decide (0 < j) then some (.int (i % j)) else none
  | _, _ => none
def bPow : PV → PV → Option PV
  | .int i, .int j => if powOk i j then some (.int (i ^ j.toNat)) else none
  | _, _ => none
def uNeg : PV → Option PV
  | .int i => some (.int (-i))
  | _ => none
/-! ### comparisons -/
/-- data of at most that depth: nothing but None, truths, allI, texts, lists, tuples -/
def dat : Nat → PV → Bool
  | _, .non => true | _, .bl _ => true | _, .int _ => true | _, .str _ => true
  | 0, _ => false
  | n + 1, .tup xs => xs.all (dat n)
  | n + 1, .lst _ xs => xs.all (dat n)
  | _ + 1, _ => false
abbrev deep : Nat := 20
mutual
def eqv : PV → PV → Bool
  | .non, .non => true
  | .bl a, .bl b => a == b
  | .bl a, .int j => b2i a == j
  | .int i, .bl b => i == b2i b
  | .int i, .int j => i == j
  | .str x, .str y => x == y
  | .lst _ xs, .lst _ ys => eqvs xs ys
  | .tup xs, .tup ys => eqvs xs ys
  | _, _ => false
def eqvs : List PV → List PV → Bool
  | [], [] => true
  | x :: xs, y :: ys => eqv x y && eqvs xs ys
  | _, _ => false
end
def cEq (v w : PV) : Option Bool := if dat deep v && dat deep w then some (eqv v w) else none
def cNe (v w : PV) : Option Bool := if dat deep v && dat deep w then some (!eqv v w) else none
def cLt : PV → PV → Option Bool
  | .int i, .int j => some (decide (i < j))
  | _, _ => none
def cLe : PV → PV → Option Bool
  | .int i, .int j => some (decide (i ≤ j))
  | _, _ => none
def cGt : PV → PV → Option Bool
  | .int i, .int j => some (decide (j < i))
  | _, _ => none
def cIsN : PV → Option Bool
  | .non => some true
  | .con _ => none
  | .exc .. => none
  | .st .. => none
  | _ => some false
def cNotN (v : PV) : Option Bool := (cIsN v).map (!·)
/-- one sign in a text -/
def cIn : PV → PV → Option Bool
  | v, .lst _ xs => if dat deep v && xs.all (dat deep) then some (xs.any fun y => eqv y v) else none
  | v, .tup xs => if dat deep v && xs.all (dat deep) then some (xs.any fun y => eqv y v) else none
  | .str x, .str z => if x.length = 1 then some (decide (x.cps.getD 0 0 ∈ z.cps.toList)) else none
  | _, _ => none
def cNi (v w : PV) : Option Bool := (cIn v w).map (!·)
/-! ### places, slices -/
def ixN (n : Nat) (i : Int) : Option Nat := if 0 ≤ i then (if i < n then some i.toNat else none) else if -(n : Int) ≤ i then some (i + n).toNat else none
def atI {α : Type} (xs : List α) (i : Int) : Option α := (ixN xs.length i).bind fun j => xs[j]?
def onlyFro (v : PV) : Option PV := if fro v then some v else none
def ix : PV → PV → Option PV
  | .lst _ xs, .int i => (atI xs i).bind onlyFro
  | .tup xs, .int i => (atI xs i).bind onlyFro
  | .str z, .int i => (atI z.cps.toList i).map fun c => .str ⟨#[c]⟩
  | _, _ => none
def sIx (n d : Nat) : Option Int → Nat
  | none => d
  | some v => if v < 0 then (v + (n : Int)).toNat else min v.toNat n
def cut {α : Type} (xs : List α) (lo hi : Option Int) : List α := (xs.drop (sIx xs.length 0 lo)).take (sIx xs.length xs.length hi - sIx xs.length 0 lo)
def sl (v : PV) (lo hi : Option Int) : Option PV := match v with
  | .lst _ xs => if fros xs then some (.lst true (cut xs lo hi)) else none
  | .tup xs => if fros xs then some (.tup (cut xs lo hi)) else none
  | .str z => some (.str ⟨(cut z.cps.toList lo hi).toArray⟩)
  | _ => none
/-- a bound -/
def goB (b : Option EF) (ρ : Env) : Res (Option Int) := match b with
  | none => .ok none ρ
  | some f => (f ρ).bind fun v ρ1 => match v with
    | .int i => .ok (some i) ρ1
    | _ => .bad
def eSl (a : Opd) (lo hi : Option EF) : EF := fun ρ => (a.go ρ).bind fun t ρ1 => (goB lo ρ1).bind fun i ρ2 => (goB hi ρ2).bind fun j ρ3 => .of ((a.get t ρ3).bind fun v => sl v i j) ρ3
def rv : PV → Option PV
  | .lst _ xs => if fros xs then some (.lst true xs.reverse) else none
  | _ => none
/-! ### built-ins -/
def fLen : PV → Option PV
  | .str x => some (.int x.length)
  | .lst _ xs => some (.int xs.length)
  | .tup xs => some (.int xs.length)
  | .dct _ ks _ => some (.int ks.length)
  | _ => none
def fAbs : PV → Option PV
  | .int i => some (.int (if i < 0 then -i else i))
  | _ => none
def fInt : PV → Option PV
  | .int i => some (.int i)
  | .bl b => some (.int (b2i b))
  | _ => none
def fMax2 : PV → PV → Option PV
  | .int i, .int j => some (.int (if j > i then j else i))
  | _, _ => none
def fMin2 : PV → PV → Option PV
  | .int i, .int j => some (.int (if j < i then j else i))
  | _, _ => none
def fList : PV → Option PV
  | .lst _ xs => if fros xs then some (.lst true xs) else none
  | .tup xs => if fros xs then some (.lst true xs) else none
  | _ => none
def fTuple : PV → Option PV
  | .lst _ xs => if fros xs then some (.tup xs) else none
  | .tup xs => if fros xs then some (.tup xs) else none
  | _ => none
/-- truths only -/
def bls : List PV → Option (List Bool)
  | [] => some []
  | .bl b :: xs => (bls xs).map (b :: ·)
  | _ :: _ => none
def allS : List PV → Option (List Str)
  | [] => some []
  | .str i :: xs => (allS xs).map (i :: ·)
  | _ :: _ => none
def fAll : PV → Option PV
  | .lst _ xs => (bls xs).map fun bs => .bl (bs.all id)
  | _ => none
def fJoin : PV → PV → Option PV
  | .str a, .lst _ xs => (allS xs).bind fun ys => if (ys.map (·.length)).sum + ys.length * a.length ≤ big then some (.str (Str.join a ys)) else none
  | .str a, .tup xs => (allS xs).bind fun ys => if (ys.map (·.length)).sum + ys.length * a.length ≤ big then some (.str (Str.join a ys)) else none
  | _, _ => none
/-- built-in classes -/
inductive Ty where
  | int | bool | str | list | tuple | dict
  deriving DecidableEq
def isA : Ty → PV → Option Bool
  | _, .con _ => none
  | _, .exc .. => none
  | _, .st .. => none
  | _, .ins .. => none
  | .int, .int _ => some true
  | .int, .bl _ => some true
  | .bool, .bl _ => some true
  | .str, .str _ => some true
  | .list, .lst .. => some true
  | .tuple, .tup _ => some true
  | .dict, .dct .. => some true
  | _, _ => some false
def tPV (k : PV → Option Bool) (o : Opd) : TF := op1 o k
def tPV2 (k : PV → PV → Option Bool) (a b : Opd) : TF := op2 a b k
def eP1 (k : PV → Option PV) (o : Opd) : EF := op1 o k
def eP2 (k : PV → PV → Option PV) (a b : Opd) : EF := op2 a b k
/-- a < b < c: b asked once -/
def tCh (k l : PV → PV → Option Bool) (a b d : Opd) : TF := fun ρ =>
  (a.go ρ).bind fun t ρ1 => (b.go ρ1).bind fun u ρ2 =>
    (Res.of ((a.get t ρ2).bind fun v => (b.get u ρ2).bind fun w => k v w) ρ2).bind fun r ρ3 =>
      if r = true then (d.go ρ3).bind fun x ρ4 => .of ((b.get u ρ4).bind fun w => (d.get x ρ4).bind fun z => l w z) ρ4 else .ok false ρ3
end Tr
set_option Elab.async false
set_option linter.all false
set_option maxRecDepth 100000
set_option maxHeartbeats 4000000
/-! Tr.B: tuples that are known to have no dict: how they are made. -/
namespace Tr
open PySem PySem.Spec PyProof.Rows L2 HT
abbrev tupO (its : Array Value) : Obj := { cls := .type "tuple", data := .seq its }
def TB (o : Obj) : Prop := o.cls = .type "tuple" ∧ o.dict = none
/-- the tuple at a, without a dict -/
def SqB (K : PySem.W.Frag) (H : Hp) (a : Addr) (xs : List V) : Prop :=
  (∃ o, H a = some (.frz o (.tup xs)) ∧ TB o) ∨ ∃ (o : Obj) (its : Array Value) (n : Nat), K.lookup a = some o ∧ TB o ∧ o.data = .seq its n ∧ its.size ≤ sizeLine ∧ Vals xs its.toList
section
variable {K : PySem.W.Frag} {H : Hp} {a : Addr} {xs : List V}
theorem SqB.sq (h : SqB K H a xs) : SqT K H a xs := by
  rcases h with ⟨o, h, _⟩ | ⟨o, its, n, h1, h2, h3⟩
  · exact .inl (.inr ⟨o, h⟩)
  · exact .inr ⟨o, its, n, h1, h2.1, h3⟩
theorem tB (its : Array Value) : TB (tupO its) := ⟨rfl, rfl⟩
theorem SqB.of {o : Obj} (h : H a = some (.frz o (.tup xs))) (b : TB o) : SqB K H a xs := .inl ⟨o, h, b⟩
theorem SqB.bare {X : Cx} {pins : List (Addr × Obj)} {σ : L2.St} {s : Shared} (I : L2.Inv X pins σ H s) (h : SqB X.K H a xs) : ∃ o, s.heap.get? a = some o ∧ TB o := by
  rcases h with ⟨o, h, b⟩ | ⟨o, its, n, h1, h2, h3⟩
  · exact ⟨o, (I.hok a _ h).1, b⟩
  · exact ⟨o, I.kIn a o h1, h2⟩
end
section
variable {X : Cx}
/-- a tuple, a list of written items -/
def tTupB (t : TA) : TE := fun σ H Q => t σ H fun xs H1 => xs.length ≤ sizeLine ∧ ∀ p o, H1 p = none → TB o → Q (.ref p) (upd H1 p (.frz o (.tup xs)))
theorem pe_tupB {es : List Expr} {t : TA} {pos : Pos} {x1} (h : PA X es t) : PE X (.Tuple es x1 pos) (tTupB t) := by
  refine ⟨fun pins s σ H Q I hq => ?_⟩
  refine wpAny_Tuple_spliced (thn (h.run pos pins s σ H _ I hq) fun us s1 ⟨xs, H1, I1, r, z, q⟩ => ⟨by rw [← r.length]; exact z, ?_⟩)
  have hf : H1 s1.heap.objs.size = none := I1.hok.fresh (Nat.le_refl _)
  refine ⟨.ref s1.heap.objs.size, upd H1 s1.heap.objs.size (.frz (tupO us.toArray) (.tup xs)), I1.laid (t' := s1.toks) (fun b u e => Heap.get?_push_of_some _ e) (Nat.le_refl _) ?_, rfl, q _ _ hf (tB _)⟩
  exact ⟨Heap.get?_push_size _ rfl, z, us, r, ⟨_, Heap.get?_push_size _ rfl, rfl, _, rfl⟩⟩
/-- t[lo:hi] -/
def rSlB (K : PySem.W.Frag) : V → Option Int → Option Int → Hp → VK → Prop := fun x lo hi H Q => ∃ a xs, x = .ref a ∧ SqT K H a xs ∧
  (HT.sIx xs.length 0 lo = 0 ∧ HT.sIx xs.length xs.length hi = xs.length → Q (.ref a) H) ∧ (¬ (HT.sIx xs.length 0 lo = 0 ∧ HT.sIx xs.length xs.length hi = xs.length) → ∀ p o, H p = none → TB o → Q (.ref p) (upd H p (.frz o (.tup (cutV xs lo hi)))))
theorem sl_tupB : SlR X (rSlB X.K) := by
  intro pins s σ H x v vl vu lo hi sl Q I rx hs pl pu h
  obtain ⟨a, xs, rfl, hx, q1, q2⟩ := h
  cases rx
  obtain ⟨its, r, ht, hz⟩ := I.tuple hx
  have hlen : its.toArray.size = xs.length := by rw [List.size_toArray]; exact r.length.symm
  refine ⟨"tuple", _, PyProof.Rows.slot_tuple_getitem.lookup, ht.typeIs, ?_⟩
  by_cases hw : HT.sIx xs.length 0 lo = 0 ∧ HT.sIx xs.length xs.length hi = xs.length
  · exact getItem_tuple_whole ht hs pl pu (by rw [hlen]; exact hw) ⟨.ref a, H, I, rfl, q1 hw⟩
  · refine HT.getItem_tuple_cut ht hs pl pu (by rw [hlen]; exact hw) ?_ (by rw [hlen]; exact hz)
    rw [hlen]
    refine ⟨.ref s.heap.objs.size, _, I.laid (t' := s.toks) (o := .frz (tupO ((its.drop (HT.sIx xs.length 0 lo)).take (HT.sIx xs.length xs.length hi - HT.sIx xs.length 0 lo)).toArray) (.tup (cutV xs lo hi))) (fun b ob q => Heap.get?_push_of_some _ q) (Nat.le_refl _) ?_, rfl, q2 hw _ _ (I.hok.fresh (Nat.le_refl _)) (tB _)⟩
    exact ⟨Heap.get?_push_size _ rfl, Nat.le_trans (cutV_length xs lo hi) hz, _, (r.drop (HT.sIx xs.length 0 lo)).take (HT.sIx xs.length xs.length hi - HT.sIx xs.length 0 lo), IsTup.new _ _⟩
/-- t + u -/
def rCatB (K : PySem.W.Frag) : R2 := fun x y H Q => ∃ a b xs ys, x = .ref a ∧ y = .ref b ∧ SqT K H a xs ∧ SqT K H b ys ∧ xs.length + ys.length ≤ sizeLine ∧
  (xs = [] → Q (.ref b) H) ∧ (xs ≠ [] → ys = [] → Q (.ref a) H) ∧ (xs ≠ [] → ys ≠ [] → ∀ p o, H p = none → TB o → Q (.ref p) (upd H p (.frz o (.tup (xs ++ ys)))))
theorem op_catB : OpR X (binaryOp .Add) (rCatB X.K) := by
  intro pins s σ H x y v u Q I rx ry h
  obtain ⟨a, b, xs, ys, rfl, rfl, ha, hb, hz, q0, q1, q2⟩ := h
  cases rx
  cases ry
  obtain ⟨its, r1, p1, _⟩ := I.tuple ha
  obtain ⟨its2, r2, p2, _⟩ := I.tuple hb
  by_cases hx : xs = []
  · subst hx
    cases r1
    exact cat_tup0 p1 p2 ⟨.ref b, H, I, rfl, q0 rfl⟩
  · refine HT.cat_tup p1 p2 (fun z => hx (r1.nil_iff.mp z)) (fun z => ⟨.ref a, H, I, rfl, q1 hx (r2.nil_iff.mp z)⟩) (fun z => ?_) (by rw [← r1.length, ← r2.length]; exact hz)
    refine ⟨.ref s.heap.objs.size, _, I.laid (t' := s.toks) (o := .frz (tupO (its ++ its2).toArray) (.tup (xs ++ ys))) (fun b ob q => Heap.get?_push_of_some _ q) (Nat.le_refl _) ?_, rfl, q2 hx (fun w => z (r2.nil_iff.mpr w)) _ _ (I.hok.fresh (Nat.le_refl _)) (tB _)⟩
    exact ⟨Heap.get?_push_size _ rfl, by rw [List.length_append]; exact hz, _, r1.append r2, IsTup.new _ _⟩
/-- tuple(xs) -/
theorem call_tupleB : CallR X (.type "tuple") (fun xs H Q => ∃ p ys, xs = [.ref p] ∧ ((SqL X.K H p ys ∧ ∀ l o, H l = none → TB o → Q (.ref l) (upd H l (.frz o (.tup ys)))) ∨ (SqT X.K H p ys ∧ Q (.ref p) H))) := by
  intro pins s σ H xs us Q I r h
  obtain ⟨p, ys, rfl, h⟩ := h
  obtain ⟨u, rfl, rx⟩ := vals1 r
  cases rx
  rcases h with ⟨hq, q⟩ | ⟨hq, q⟩
  · obtain ⟨its, r', pl, hz⟩ := I.list hq
    have hlen := r'.length
    refine call_tuple_list pl.isList (fun h' kp => ?_) (by simp only [List.size_toArray] <;> omega)
    have I1 : L2.Inv X pins σ H { s with heap := h' } := I.kept (t' := s.toks) kp
    refine ⟨.ref h'.objs.size, _, I1.laid (t' := s.toks) (o := .frz (tupO its.toArray) (.tup ys)) (fun b o e => Heap.get?_push_of_some _ e) (Nat.le_refl _) ?_, rfl, q _ _ (I1.hok.fresh (Nat.le_refl _)) (tB _)⟩
    exact ⟨Heap.get?_push_size _ rfl, hz, its, r', IsTup.new _ _⟩
  · obtain ⟨its, r', pl, hz⟩ := I.tuple hq
    exact call_tuple_same pl ⟨.ref p, H, I, rfl, q⟩
end
end Tr
set_option Elab.async false
set_option linter.all false
set_option maxRecDepth 100000
set_option maxHeartbeats 4000000
/-! Tr.St: sets of tuples of ints and None, in the model: a member sought, one put in. -/
namespace Tr
open PySem PySem.Spec PyProof.Rows L2
/-! ### the keys -/
def cN : Option Int → NestedKey
  | none => .none
  | some i => .num i
def nK (k : CK) : NestedKey := .tup (k.map cN)
def cH : Option Int → Int
  | none => reduceHash 0xFCA86420
  | some i => hashInt i
def kH (k : CK) : Int := reduceHash (Builtin.Tuple.tupleHashOf (k.map cH))
theorem cN_inj : ∀ {a b : Option Int}, cN a = cN b → a = b
  | none, none, _ => rfl
  | none, some _, h => nomatch h
  | some _, none, h => nomatch h
  | some i, some j, h => by
    have h : NestedKey.num i = NestedKey.num j := h
    injection h with h
    rw [h]
theorem cNs_inj : ∀ {a b : CK}, a.map cN = b.map cN → a = b
  | [], [], _ => rfl
  | [], _ :: _, h => by cases h
  | _ :: _, [], h => by cases h
  | x :: xs, y :: ys, h => by
    rw [List.map_cons, List.map_cons] at h
    injection h with h1 h2
    rw [cN_inj h1, cNs_inj h2]
theorem nK_inj {a b : CK} (h : nK a = nK b) : a = b := by
  unfold nK at h
  injection h with h
  exact cNs_inj h
theorem cHs (w : World) : ∀ k : CK, NestedKey.hashes w (k.map cN) = k.map cH
  | [] => by simp [NestedKey.hashes]
  | x :: k => by
    rw [List.map_cons, List.map_cons, NestedKey.hashes, cHs w k]
    cases x <;> simp [cN, cH, NestedKey.hash]
theorem nK_hash (w : World) (k : CK) : (nK k).hash w = kH k := by
  unfold nK kH
  rw [NestedKey.hash, cHs]
theorem cD : ∀ k : CK, NestedKey.depthAll (k.map cN) = 0
  | [] => by simp [NestedKey.depthAll]
  | x :: k => by
    rw [List.map_cons, NestedKey.depthAll, cD k]
    cases x <;> simp [cN, NestedKey.depth]
theorem nK_depth (k : CK) : (nK k).depth ≤ 8 := by
  unfold nK
  rw [NestedKey.depth, cD]; omega
/-- the tuple at b is the key k -/
def IsC (h : Heap) (k : CK) (b : Addr) : Prop := NestedIs h (nK k) (.ref b)
/-- its items carry nothing -/
def Bare (v : Value) : Prop := v = .none ∨ (∃ b, v = .bool b) ∨ ∃ i t, v = .int i t
theorem bare_of {h : Heap} : ∀ {k : CK} {vs : List Value}, NestedAll h (k.map cN) vs → ∀ v ∈ vs, Bare v
  | [], _, r, v, m => by cases r; cases m
  | x :: k, _, r, v, m => by
    rw [List.map_cons] at r
    cases r with
    | cons r1 r2 =>
      rcases List.mem_cons.mp m with e | m
      · subst e
        cases x with
        | none => cases r1; exact .inl rfl
        | some i => cases r1 with
          | bool _ => exact .inr (.inl ⟨_, rfl⟩)
          | int _ t => exact .inr (.inr ⟨_, _, rfl⟩)
      · exact bare_of r2 v m
theorem IsC.open {h : Heap} {k : CK} {b : Addr} (x : IsC h k b) : ∃ (o : Obj) (vs : Array Value) (n : Nat), h.get? b = some o ∧ o.cls = .type "tuple" ∧ o.data = .seq vs n ∧ ∀ v ∈ vs.toList, Bare v := by
  unfold IsC nK at x
  cases x with
  | tup h1 h2 h3 h4 => exact ⟨_, _, _, h1, h2, h3, bare_of h4⟩
theorem IsC.keep {h h' : Heap} {k : CK} {b : Addr} (x : IsC h k b) (e : ∀ o, h.get? b = some o → h'.get? b = some o) : IsC h' k b := by
  unfold IsC nK at x ⊢
  cases x with
  | tup h1 h2 h3 h4 =>
    refine .tup (e _ h1) h2 h3 ?_
    have go : ∀ {k : CK} {vs : List Value}, NestedAll h (k.map cN) vs → NestedAll h' (k.map cN) vs := by
      intro k
      induction k with
      | nil => intro vs r; cases r; exact .nil
      | cons x k ih =>
        intro vs r
        rw [List.map_cons] at r ⊢
        cases r with
        | cons r1 r2 =>
          refine .cons ?_ (ih r2)
          cases x with
          | none => cases r1; exact .none
          | some i => cases r1 with
            | bool e => exact .bool e
            | int _ t => exact .int _ t
    exact go h4
section
variable {prog : Program} {w : World} {A : Around} {E : Value → Shared → Prop} {s : Shared}
theorem c_eq {x y : CK} {a b : Addr} {Q : Bool → Shared → Prop} (hu : A.units + 8 < cLine) (hx : IsC s.heap x a) (hy : IsC s.heap y b) (h : Q (decide (x = y)) s) : wpAny (model prog w) A (eqBool (.ref a) (.ref b)) Q E s := by
  refine (nestedKind prog w).eqBool hu ⟨hx, nK_depth x⟩ ⟨hy, nK_depth y⟩ ?_
  have e : decide (nK x = nK y) = decide (x = y) := by
    by_cases q : x = y
    · rw [decide_eq_true q, decide_eq_true (by rw [q])]
    · rw [decide_eq_false q, decide_eq_false fun z => q (nK_inj z)]
  rw [e]; exact h
theorem c_hash {x : CK} {a : Addr} {Q : Int → Shared → Prop} (hu : A.units + 8 < cLine) (hx : IsC s.heap x a) (h : ∀ n, Q (kH x) { s with toks := s.toks + n }) : wpAny (model prog w) A (pyHash (.ref a)) Q E s := by
  refine (nestedKind prog w).pyHash hu ⟨hx, nK_depth x⟩ ?_
  show Q ((nK x).hash w) _
  rw [nK_hash]; exact h _
theorem bare_cls (n : Nat) {v : Value} (h : Bare v) : ofAClassStatement n v = pure false := by
  rcases h with rfl | ⟨b, rfl⟩ | ⟨i, t, rfl⟩ <;> cases n <;> rfl
theorem c_cls {k : CK} {b : Addr} {Q : Bool → Shared → Prop} (hx : IsC s.heap k b) (h : Q false s) : wpAny (model prog w) A (ofAClassStatement 8 (.ref b)) Q E s := by
  obtain ⟨o, vs, n, ho, hc, hd, hb⟩ := hx.open
  unfold ofAClassStatement
  refine wpAny_bind (wpAny_typeOf (T := "tuple") ⟨o, ho, hc⟩ ?_)
  dsimp only
  rw [if_pos (by decide)]
  refine wpAny_bind (wpAny_pure ?_)
  rw [if_neg (by simp)]
  refine wpAny_bind (wpAny_seqItems ho hd ?_)
  dsimp only
  refine wpAny_bind ?_
  rw [← Array.forIn_toList]
  refine wpAny_forIn_list _ (fun rest r s' => r.1 = none ∧ s' = s ∧ ∀ v ∈ rest, Bare v) _ ?_ ?_ _ _ ⟨rfl, rfl, hb⟩
  · rintro v rest r s' ⟨hr, rfl, all⟩
    rw [bare_cls 7 (all v List.mem_cons_self)]
    refine wpAny_bind (wpAny_pure ?_)
    rw [if_neg (by simp)]
    exact wpAny_pure ⟨rfl, rfl, fun u m => all u (List.mem_cons_of_mem _ m)⟩
  · rintro ⟨r1, r2⟩ s' ⟨hr, rfl, _⟩
    cases hr
    exact wpAny_pure h
/-- looking for such a tuple among such tuples shows nothing -/
theorem c_seen {k : CK} {b : Addr} {Q : Bool → Shared → Prop} (hx : IsC s.heap k b) {ys : List Value} (hy : ∀ y ∈ ys, ∃ k' c, y = .ref c ∧ IsC s.heap k' c) (h : Q false s) : wpAny (model prog w) A (searchCouldBeSeen (.ref b) ys) Q E s := by
  have quiet : ∀ {k : CK} {b : Addr} {Q : Bool → Shared → Prop}, IsC s.heap k b → Q true s → wpAny (model prog w) A (eqIsQuiet 8 (.ref b)) Q E s := fun {k b Q} z q => (nestedKind prog w).quiet ⟨z, nK_depth k⟩ q
  unfold searchCouldBeSeen
  refine wpAny_bind (wpAny_forIn_list _ (fun rest r s' => r.1 = none ∧ s' = s ∧ ∀ y ∈ rest, ∃ k' c, y = .ref c ∧ IsC s.heap k' c) _ ?_ ?_ _ _ ⟨rfl, rfl, hy⟩)
  · rintro v rest r s' ⟨hr, rfl, all⟩
    obtain ⟨k', c, rfl, hc⟩ := all v List.mem_cons_self
    have tl : ∀ y ∈ rest, ∃ k' c, y = .ref c ∧ IsC s'.heap k' c := fun u m => all u (List.mem_cons_of_mem _ m)
    dsimp only
    split
    · exact wpAny_pure ⟨rfl, rfl, tl⟩
    · refine wpAny_bind (quiet hx ?_)
      rw [if_neg (by simp)]
      refine wpAny_bind (quiet hc ?_)
      rw [if_neg (by simp)]
      refine wpAny_bind (c_cls hx ?_)
      rw [if_neg (by simp)]
      refine wpAny_bind (c_cls hc ?_)
      rw [if_neg (by simp)]
      exact wpAny_pure ⟨rfl, rfl, tl⟩
  · rintro ⟨r1, r2⟩ s' ⟨hr, rfl, _⟩
    cases hr
    exact wpAny_pure h
end
/-! ### the set -/
structure SetC (h : Heap) (a : Addr) (L : List (Addr × CK)) (es : Array (Int × Value)) (ep : Nat) (t : SetTable) : Prop where
  ob : ∃ o, h.get? a = some o ∧ o.ExactSet ∧ o.data = .set es ep t
  rows : es.toList = L.map fun q => (kH q.2, Value.ref q.1)
  tab : TabOk t (L.map fun q => kH q.2)
  nd : (L.map (·.2)).Nodup
  plain : t.plain = true
  room : L.length * 5 < t.mask * 3
  few : L.length < 64
section
variable {h : Heap} {a : Addr} {L : List (Addr × CK)} {es : Array (Int × Value)} {ep : Nat} {t : SetTable}
theorem SetC.size (R : SetC h a L es ep t) : es.size = L.length := by
  have := congrArg List.length R.rows
  rwa [Array.length_toList, List.length_map] at this
theorem SetC.fits (R : SetC h a L es ep t) : t.fits es.size = true := by
  have h1 := R.tab.sz
  have h3 := R.room
  rw [List.length_map] at h1
  unfold SetTable.fits SetTable.fill
  rw [R.tab.dm, R.size, Bool.and_eq_true, beq_iff_eq, decide_eq_true_eq]
  exact ⟨h1, by show t.place.size + 0 ≤ t.mask; omega⟩
theorem SetC.entry (R : SetC h a L es ep t) {i : Nat} {q : Addr × CK} (e : L[i]? = some q) : es[i]? = some (kH q.2, Value.ref q.1) := by
  rw [← Array.getElem?_toList, R.rows, List.getElem?_map, e]; rfl
theorem SetC.whole (R : SetC h a L es ep t) : ¬ t.gaveWay = true := by
  unfold SetTable.gaveWay
  rw [mask_odd R.tab.mok]
  decide
end
section
variable {prog : Program} {w : World} {A : Around} {E : Value → Shared → Prop} {s : Shared} {a : Addr} {L : List (Addr × CK)} {es : Array (Int × Value)} {ep : Nat} {t : SetTable}
abbrev pth (m : Nat) (h : Int) (c : Nat) : SetTable.Probe := nth m (runAt m (SetTable.bits h % (m + 1)) (SetTable.bits h)) c
theorem pth_none (m : Nat) (h : Int) (c : Nat) : (pth m h c).dummy = none := by
  have go : ∀ (n : Nat) (p : SetTable.Probe), p.dummy = none → (nth m p n).dummy = none := by
    intro n
    induction n with
    | zero => intro p h; exact h
    | succ n ih =>
      intro p h
      refine ih (adv m p) ?_
      unfold adv
      split <;> exact h
  exact go c _ rfl
theorem pth_add (m : Nat) (h : Int) (c q : Nat) : nth m (pth m h c) q = pth m h (c + q) := (nth_add m c _ q).symm
/-- the search from the c-th place of the key's path on: what stands before is not the key -/
theorem SetC.go (R : SetC s.heap a L es ep t) (all : ∀ q ∈ L, IsC s.heap q.2 q.1) {x : Addr} {k : CK} (hx : IsC s.heap k x) (hu : A.units + 8 < cLine) {adding : Bool} {K : Nat} (hK : way t.mask (kH k) K ∉ t.place.toList) (hb : ∀ c, c < K → way t.mask (kH k) c ∈ t.place.toList) (hf : K < 10 * SetTable.turns t.mask)
    {Q : SetFound → Shared → Prop} (hin : ∀ o, k ∈ L.map (·.2) → (adding = false → o.isSome = true) → Q (.there o) s) (hout : k ∉ L.map (·.2) → Q (.free (way t.mask (kH k) K) false) s) :
    ∀ (f c : Nat) (stand : Option SetTable.Probe), stand.getD (t.probeStart (kH k)) = pth t.mask (kH k) c → c ≤ K → K < c + f →
      (∀ (c' i : Nat) (q : Addr × CK), c' < c → t.place.toList[i]? = some (way t.mask (kH k) c') → L[i]? = some q → q.2 ≠ k) →
      wpAny (model prog w) A (setSearchFrom a (.ref x) (kH k) adding f stand) Q E s
  | 0, c, stand, _, h1, h2, _ => by omega
  | f + 1, c, stand, hst, h1, h2, no => by
    obtain ⟨o, ho, hex, hd⟩ := R.ob
    have len : ∀ {i j : Nat}, t.place.toList[i]? = some j → ∃ q, L[i]? = some q ∧ q ∈ L := fun {i j} e => by
      have l1 := (List.getElem?_eq_some_iff.mp e).1
      have l2 := R.tab.sz
      rw [List.length_map] at l2
      rw [Array.length_toList] at l1
      have l3 : i < L.length := by omega
      exact ⟨L[i], List.getElem?_eq_getElem l3, List.getElem_mem l3⟩
    have hash : ∀ {i : Nat} {q : Addr × CK}, L[i]? = some q → ((es[i]?.map (·.1)).getD 0 : Int) = kH q.2 := fun e => by rw [R.entry e]; rfl
    have wy : ∀ q, (nth t.mask (pth t.mask (kH k) c) q).j = way t.mask (kH k) (c + q) := fun q => by rw [pth_add]
    rw [setSearchFrom_succ]
    refine wpAny_bind (wpAny_setState_of ho hd R.fits ?_)
    dsimp only
    rw [if_neg R.whole, hst]
    rcases go_spec t R.tab.ris R.tab.dm (fun i => (es[i]?.map (·.1)).getD 0) (kH k) (10 * SetTable.turns t.mask) (K - c) (pth t.mask (kH k) c) (pth_none _ _ _) (by omega)
      (fun q hq => by rw [wy]; exact hb _ (by omega)) (by rw [wy, show c + (K - c) = K by omega]; exact hK) with ⟨q, i, hq, hi, _, hno, hp⟩ | ⟨hno, hp⟩
    · -- something of the same hash
      have hp2 : t.probe (fun i => (es[i]?.map (·.1)).getD 0) (kH k) (pth t.mask (kH k) c) = some (.candidate (nth t.mask (pth t.mask (kH k) c) q).j i (nth t.mask (pth t.mask (kH k) c) (q + 1))) := hp
      rw [hp2]
      dsimp only
      rw [wy] at hi ⊢
      rw [pth_add]
      obtain ⟨p, hpe, hpm⟩ := len hi
      have live : t.slot (way t.mask (kH k) (c + q)) = .live i := slot_live R.tab.ris hi
      have rest : wpAny (model prog w) A (searchRest a (.ref x) (kH k) adding f es t (way t.mask (kH k) (c + q)) i (pth t.mask (kH k) (c + (q + 1)))) Q E s := by
        unfold searchRest
        rw [R.entry hpe]
        dsimp only
        refine wpAny_bind (wpAny_holding (c_eq hu (all p hpm) hx ?_))
        refine wpAny_bind (wpAny_setState_of ho hd R.fits ?_)
        dsimp only
        by_cases e : p.2 = k
        · have mem : k ∈ L.map (·.2) := List.mem_map.mpr ⟨p, hpm, e⟩
          rw [decide_eq_true e]
          cases adding with
          | true =>
            rw [if_pos (show (true && true) = true from rfl)]
            exact wpAny_pure (hin none mem (fun z => by cases z))
          | false =>
            rw [if_neg (by simp), sameMem]
            dsimp only
            rw [if_pos rfl, live]
            dsimp only
            rw [R.entry hpe]
            dsimp only
            refine wpAny_bind (wpAny_isSame_ref_self (wpAny_bind (wpAny_pure ?_)))
            rw [if_pos rfl]
            dsimp only
            rw [if_pos rfl]
            exact wpAny_pure (hin (some i) mem fun _ => rfl)
        · rw [decide_eq_false e, if_neg (by simp), sameMem]
          dsimp only
          rw [if_pos rfl, live]
          dsimp only
          rw [R.entry hpe]
          dsimp only
          refine wpAny_bind (wpAny_isSame_ref_self (wpAny_bind (wpAny_pure ?_)))
          rw [if_pos rfl]
          dsimp only
          rw [if_neg (by simp)]
          refine SetC.go R all hx hu hK hb hf hin hout f (c + (q + 1)) (some (pth t.mask (kH k) (c + (q + 1)))) rfl (by omega) (by omega) fun c' i' p' hc' hi' hp' ek => ?_
          rcases Nat.lt_or_ge c' c with z | z
          · exact no c' i' p' z hi' hp' ek
          · rcases Nat.lt_or_ge c' (c + q) with z2 | z2
            · exact hno (c' - c) i' (by omega) (by rw [wy, show c + (c' - c) = c' by omega]; exact hi') (by rw [hash hp', ek])
            · have e2 : c' = c + q := by omega
              subst e2
              have l2 := slot_live R.tab.ris hi'
              rw [live] at l2
              injection l2 with l2
              subst l2
              rw [hpe] at hp'
              cases hp'
              exact e ek
      split
      · refine wpAny_bind (c_seen hx (fun y hy => ?_) ?_)
        · obtain ⟨en, hen, ey⟩ := List.mem_map.mp hy
          have hen : en ∈ es.toList := by
            have z : en ∈ es ∧ en.1 = kH k := by simpa using hen
            simpa using z.1
          rw [R.rows] at hen
          obtain ⟨p2, hp2, e2⟩ := List.mem_map.mp hen
          exact ⟨p2.2, p2.1, by rw [← ey, ← e2], all p2 hp2⟩
        · rw [if_neg (by simp)]
          exact rest
      · exact rest
    · -- nothing before the empty place
      have hp2 : t.probe (fun i => (es[i]?.map (·.1)).getD 0) (kH k) (pth t.mask (kH k) c) = some (.empty (nth t.mask (pth t.mask (kH k) c) (K - c)).j none) := hp
      rw [hp2]
      dsimp only
      rw [wy, show c + (K - c) = K by omega]
      refine wpAny_pure (hout fun hm => ?_)
      obtain ⟨p, hpm, e⟩ := List.mem_map.mp hm
      obtain ⟨i, hi, ei⟩ := List.getElem_of_mem hpm
      have hpe : L[i]? = some p := by rw [List.getElem?_eq_getElem hi, ei]
      have hle : i < t.place.toList.length := by
        have := R.tab.sz
        rw [List.length_map] at this
        rw [Array.length_toList]; omega
      have hpl := List.getElem?_eq_getElem hle
      obtain ⟨c', hc', ew⟩ := R.tab.before (h := kH k) hK (by rw [List.getElem?_map, hpe, ← e]; rfl) hpl
      rw [← ew] at hpl
      rcases Nat.lt_or_ge c' c with z | z
      · exact no c' i p z hpl hpe e
      · exact hno (c' - c) i (by omega) (by rw [wy, show c + (c' - c) = c' by omega]; exact hpl) (by rw [hash hpe, e])
theorem SetC.search (R : SetC s.heap a L es ep t) (all : ∀ q ∈ L, IsC s.heap q.2 q.1) {x : Addr} {k : CK} (hx : IsC s.heap k x) (hu : A.units + 8 < cLine) {adding : Bool} {Q : SetFound → Shared → Prop}
    (hin : ∀ o, k ∈ L.map (·.2) → (adding = false → o.isSome = true) → Q (.there o) s)
    (hout : ∀ K, k ∉ L.map (·.2) → way t.mask (kH k) K ∉ t.place.toList → (∀ c, c < K → way t.mask (kH k) c ∈ t.place.toList) → Q (.free (way t.mask (kH k) K) false) s) :
    wpAny (model prog w) A (setSearch a (.ref x) (kH k) adding) Q E s := by
  have room := R.room
  obtain ⟨K, hf, hK, hb⟩ := R.tab.first (by rw [List.length_map]; omega) (kH k)
  have few : K < 100000 := by
    have : 10 * SetTable.turns t.mask ≤ 2000 := by
      unfold SetTable.turns
      rcases R.tab.mok with e | e | e <;> omega
    omega
  unfold setSearch
  exact R.go all hx hu hK hb hf hin (fun hn => hout K hn hK hb) 100000 0 none rfl (Nat.zero_le _) (by omega) fun c' i q h => absurd h (Nat.not_lt_zero _)
/-- x in s -/
theorem SetC.find (R : SetC s.heap a L es ep t) (all : ∀ q ∈ L, IsC s.heap q.2 q.1) {x : Addr} {k : CK} (hx : IsC s.heap k x) (hu : A.units + 8 < cLine) {Q : Option Nat → Shared → Prop} (hQ : ∀ r, r.isSome = decide (k ∈ L.map (·.2)) → Q r s) :
    wpAny (model prog w) A (setFind a (.ref x) (kH k)) Q E s := by
  obtain ⟨o, ho, hex, hd⟩ := R.ob
  unfold setFind
  rw [show (100000 : Nat) = 99999 + 1 from rfl]
  unfold setFindIn
  refine wpAny_bind (wpAny_setState_of ho hd R.fits ?_)
  dsimp only
  rw [if_neg (by simp [byScan, Value.scannable])]
  refine wpAny_bind (R.search all hx hu (fun o hm hs => ?_) fun K hm _ _ => ?_)
  · exact wpAny_pure (hQ o (by rw [hs rfl, decide_eq_true hm]))
  · exact wpAny_pure (hQ none (by rw [decide_eq_false hm]; rfl))
theorem SetC.type (R : SetC s.heap a L es ep t) : s.TypeIs (.ref a) "set" := by
  obtain ⟨o, ho, hex, _⟩ := R.ob
  exact ⟨o, ho, hex.1⟩
theorem SetC.contains (R : SetC s.heap a L es ep t) (all : ∀ q ∈ L, IsC s.heap q.2 q.1) {x : Addr} {k : CK} (hx : IsC s.heap k x) (hu : A.in1.units + 8 < cLine) {Q : Bool → Shared → Prop} (h : ∀ n, Q (decide (k ∈ L.map (·.2))) { s with toks := s.toks + n }) :
    wpAny (model prog w) A (PySem.contains (.ref a) (.ref x)) Q E s := by
  unfold PySem.contains
  refine wpAny_holding ?_
  refine wpAny_bind (wpAny_specialOf R.type PySem.F.slot_set_contains.lookup ?_)
  rw [if_neg (by rw [beq_builtin_none]; exact Bool.false_ne_true)]
  refine wpAny_bind (wpAny_callSpecialUnlessNone?_slot (name := Str.ofString "__contains__") R.type PySem.F.slot_set_contains
    (wpAny_call_entry PySem.F.slot_set_contains R.type entry_set_contains ?_ (PySem.F.args_set_contains_2 _ _)))
  unfold Builtin.«frozenset.__contains__» Builtin.Frozenset.oneOther
  simp only [List.isEmpty_nil, bind_assoc]
  unfold Builtin.Frozenset.addrOf Builtin.Frozenset.withSetAsKey setContains
  refine wpAny_bind (wpAny_pure ?_)
  refine wpAny_bind (wpAny_pure ?_)
  refine wpAny_bind (wpAny_tryCatch (wpAny_holding (wpAny_bind (c_hash hu hx fun n => ?_))))
  refine wpAny_bind (SetC.find (s := { s with toks := s.toks + n }) R all hx hu fun r hr => ?_)
  refine wpAny_pure ?_
  show wpAny _ _ (ret (Value.bool r.isSome)) _ _ _
  rw [hr]
  exact wpAny_pure ⟨_, rfl, wpAny_truthy_bool (h n)⟩
end
end Tr
set_option Elab.async false
set_option linter.all false
set_option maxRecDepth 100000
/-! Tr.Rel: how trees stand in the abstract heap of HandS; frozen addresses F, owned addresses A. -/
namespace Tr
open PySem PySem.Spec PyProof.Rows L2
/-! ### sets of addresses -/
abbrev AS := Addr → Prop
abbrev Emp : AS := fun _ => False
abbrev Uni (a b : AS) : AS := fun p => a p ∨ b p
def Sub (a b : AS) : Prop := ∀ p, a p → b p
def Dis (a b : AS) : Prop := ∀ p, a p → b p → False
theorem Sub.refl (a : AS) : Sub a a := fun _ h => h
theorem Sub.trans {a b c : AS} (h : Sub a b) (k : Sub b c) : Sub a c := fun p x => k p (h p x)
theorem Sub.emp {a : AS} : Sub Emp a := fun _ h => h.elim
theorem Sub.l {a b : AS} : Sub a (Uni a b) := fun _ h => .inl h
theorem Sub.r {a b : AS} : Sub b (Uni a b) := fun _ h => .inr h
theorem Sub.uni {a b c : AS} (h : Sub a c) (k : Sub b c) : Sub (Uni a b) c := fun p x => x.elim (h p) (k p)
theorem Dis.sym {a b : AS} (h : Dis a b) : Dis b a := fun p x y => h p y x
theorem Dis.mono {a b a' b' : AS} (h : Dis a b) (k : Sub a' a) (l : Sub b' b) : Dis a' b' := fun p x y => h p (k p x) (l p y)
theorem Dis.empl {a : AS} : Dis Emp a := fun _ h => h.elim
theorem Dis.empr {a : AS} : Dis a Emp := fun _ _ h => h.elim
theorem Dis.uni {a b c : AS} (h : Dis a c) (k : Dis b c) : Dis (Uni a b) c := fun p x y => x.elim (fun z => h p z y) (fun z => k p z y)
/-- what may be owned -/
def Mu : HO → Prop
  | .lst _ => True
  | .dK _ => True
  | .ins _ _ _ => True
  | .ext _ => True
  | _ => False
structure Good (H : Hp) (F A : AS) : Prop where
  own : ∀ p, A p → ¬ F p ∧ ∃ o, H p = some o ∧ Mu o
  fro : ∀ p, F p → ∃ o, H p = some o
theorem Good.sub {H : Hp} {F A B : AS} (g : Good H F A) (h : Sub B A) : Good H F B := ⟨fun p x => g.own p (h p x), g.fro⟩
theorem Good.uni {H : Hp} {F A B : AS} (g : Good H F A) (h : Good H F B) : Good H F (Uni A B) := ⟨fun p x => x.elim (g.own p) (h.own p), g.fro⟩
/-- from H, F, A to H', F', A' nothing else was written -/
structure Stp (H : Hp) (F A : AS) (H' : Hp) (F' A' : AS) : Prop where
  keep : ∀ p o, H p = some o → ¬ A p → H' p = some o
  live : ∀ p, H' p = none → H p = none
  mono : ∀ p, F p → F' p
  newF : ∀ p, F' p → F p ∨ H p = none ∨ A p
  newA : ∀ p, A' p → H p = none ∨ A p
theorem Stp.refl {H : Hp} {F A : AS} : Stp H F A H F A := ⟨fun _ _ h _ => h, fun _ h => h, fun _ h => h, fun _ h => .inl h, fun _ h => .inr h⟩
theorem Stp.drop {H H' : Hp} {F A F' A' B : AS} (s : Stp H F A H' F' A') (h : Sub B A') : Stp H F A H' F' B := ⟨s.keep, s.live, s.mono, s.newF, fun p x => s.newA p (h p x)⟩
theorem Stp.more {H H' : Hp} {F A F' A' B : AS} (s : Stp H F A H' F' A') (h : Sub A B) : Stp H F B H' F' A' :=
  ⟨fun p o e n => s.keep p o e fun x => n (h p x), s.live, s.mono, fun p x => (s.newF p x).imp_right (·.imp_right (h p)), fun p x => (s.newA p x).imp_right (h p)⟩
theorem Stp.trans {H H1 H2 : Hp} {F A F1 A1 F2 A2 : AS} (s : Stp H F A H1 F1 A1) (t : Stp H1 F1 A1 H2 F2 A2) : Stp H F A H2 F2 A2 where
  keep := fun p o e n => t.keep p o (s.keep p o e n) fun x => (s.newA p x).elim (fun z => by rw [e] at z; cases z) n
  live := fun p e => s.live p (t.live p e)
  mono := fun p x => t.mono p (s.mono p x)
  newF := fun p x => by
    rcases t.newF p x with x | x | x
    · exact s.newF p x
    · exact .inr (.inl (s.live p x))
    · exact .inr (s.newA p x)
  newA := fun p x => (t.newA p x).elim (fun z => .inl (s.live p z)) (s.newA p)
/-- the same beside what others own -/
theorem Stp.frame {H H' : Hp} {F A F' A' B : AS} (s : Stp H F A H' F' A') : Stp H F (Uni B A) H' F' (Uni B A') :=
  ⟨fun p o e n => s.keep p o e fun x => n (.inr x), s.live, s.mono, fun p x => (s.newF p x).imp_right (·.imp_right .inr), fun p x => x.elim (fun z => .inr (.inl z)) fun z => (s.newA p z).imp_right .inr⟩
theorem Good.kept {H H' : Hp} {F A F' A' B : AS} (g : Good H F B) (s : Stp H F A H' F' A') (g' : Good H' F' A') (d : Dis B A) : Good H' F' B where
  own := fun p x => by
    obtain ⟨n, o, e, m⟩ := g.own p x
    refine ⟨fun f => ?_, o, s.keep p o e fun a => d p x a, m⟩
    rcases s.newF p f with f | f | f
    · exact n f
    · rw [f] at e; cases e
    · exact d p x f
  fro := g'.fro
theorem Stp.apart {H H' : Hp} {F A F' A' B : AS} (g : Good H F B) (s : Stp H F A H' F' A') (d : Dis B A) : Dis B A' := fun p x y => by
  obtain ⟨_, o, e, _⟩ := g.own p x
  rcases s.newA p y with z | z
  · rw [z] at e; cases e
  · exact d p x z
/-! ### the names of the text: its classes by number, their fields in the order of __init__, its constants -/
structure RC where
  K : PySem.W.Frag
  cA : Nat → Addr
  cF : Nat → List Str
  con : Nat → V
/-- an exception that stands at p: of the class at C, its dict d -/
def exv (p C : Addr) (d : Option Addr) : HO := .ext fun h => ∃ o vs, h.get? p = some o ∧ o.cls = .ref C ∧ o.dict = d ∧ o.data = .fields vs
/-- a set at p of the tuples L -/
def setO (p : Addr) (L : List (Addr × CK)) : HO := .ext fun h => ∃ L' es ep t, L'.Perm L ∧ SetC h p L' es ep t
section
variable (c : RC) (H : Hp) (F : AS)
/-- a frozen list at p -/
def FzL (p : Addr) (vs : List V) : Prop := Rd H p (.lst vs) ∧ F p
mutual
def R : PV → V → AS → Prop
  | .non, v, _ => v = .non
  | .bl b, v, _ => v = .bl b
  | .int i, v, _ => v = .int i
  | .str x, v, _ => v = .str x ∧ sOk x = true
  | .con k, v, _ => v = c.con k
  | .exc k xs, v, _ => ∃ p d vs, v = .ref p ∧ (H p = some (exv p (c.cA k) d) ∧ F p) ∧ ((xs = [] ∧ d = none) ∨ ∃ dd, d = some dd ∧ xs.length ≤ (c.cF k).length ∧ H dd = some (.xd ((c.cF k).zip vs))) ∧ Rs xs vs Emp
  | .st true xs, v, a => ∃ p L vs, v = .ref p ∧ H p = some (setO p L) ∧ a p ∧ (cksP xs = some (L.map (·.2)) ∧ vs = L.map fun q => V.ref q.1) ∧ Rs xs vs Emp
  | .st false xs, v, _ => ∃ p, v = .ref p ∧ F p
  | .tup xs, v, a => ∃ p vs, v = .ref p ∧ (SqB c.K H p vs ∧ xs.length ≤ sizeLine) ∧ Rs xs vs a
  | .lst true xs, v, a => ∃ p vs a', v = .ref p ∧ xs.length ≤ sizeLine ∧ H p = some (.lst vs) ∧ a p ∧ ¬ a' p ∧ Sub a' a ∧ Rs xs vs a'
  | .lst false xs, v, _ => ∃ p vs, v = .ref p ∧ (FzL H F p vs ∧ xs.length ≤ sizeLine) ∧ Rs xs vs Emp
  | .dct true ks xs, v, a => ∃ p vs a', v = .ref p ∧ (ks.length = xs.length ∧ xs.length ≤ sizeLine) ∧ H p = some (.dK (ks.zip vs)) ∧ a p ∧ ¬ a' p ∧ Sub a' a ∧ Rs xs vs a'
  | .dct false ks xs, v, _ => ∃ p vs, v = .ref p ∧ (ks.length = xs.length ∧ xs.length ≤ sizeLine) ∧ (Rd H p (.dK (ks.zip vs)) ∧ F p) ∧ Rs xs vs Emp
  | .ins true k xs, v, a => ∃ p dx vs a', v = .ref p ∧ xs.length ≤ (c.cF k).length ∧ H p = some (.ins (c.cA k) dx ((c.cF k).zip vs)) ∧ a p ∧ ¬ a' p ∧ Sub a' a ∧ Rs xs vs a'
  | .ins false k xs, v, _ => ∃ p dx vs, v = .ref p ∧ xs.length ≤ (c.cF k).length ∧ (H p = some (.ins (c.cA k) dx ((c.cF k).zip vs)) ∧ F p) ∧ Rs xs vs Emp
def Rs : List PV → List V → AS → Prop
  | [], vs, _ => vs = []
  | x :: xs, vs, a => ∃ v vs' b d, vs = v :: vs' ∧ Sub b a ∧ Sub d a ∧ Dis b d ∧ R x v b ∧ Rs xs vs' d
end
end
section
variable {c : RC} {H H' : Hp} {F F' A A' : AS}
mutual
theorem R.mono : ∀ {x : PV} {v : V} {a b : AS}, R c H F x v a → Sub a b → R c H F x v b
  | .non, _, _, _, h, _ => h
  | .bl _, _, _, _, h, _ => h
  | .int _, _, _, _, h, _ => h
  | .str _, _, _, _, h, _ => h
  | .con _, _, _, _, h, _ => h
  | .exc _ _, _, _, _, h, _ => h
  | .st true _, _, _, _, ⟨p, L, vs, e, q, m, z⟩, s => ⟨p, L, vs, e, q, s p m, z⟩
  | .st false _, _, _, _, h, _ => h
  | .tup xs, _, _, _, ⟨p, vs, e, q, r⟩, s => ⟨p, vs, e, q, Rs.mono r s⟩
  | .lst true xs, _, _, _, ⟨p, vs, a', e, l, q, m, n, t, r⟩, s => ⟨p, vs, a', e, l, q, s p m, n, t.trans s, r⟩
  | .lst false xs, _, _, _, h, _ => h
  | .dct true ks xs, _, _, _, ⟨p, vs, a', e, l, q, m, n, t, r⟩, s => ⟨p, vs, a', e, l, q, s p m, n, t.trans s, r⟩
  | .dct false ks xs, _, _, _, h, _ => h
  | .ins true k xs, _, _, _, ⟨p, dx, vs, a', e, l, q, m, n, t, r⟩, s => ⟨p, dx, vs, a', e, l, q, s p m, n, t.trans s, r⟩
  | .ins false k xs, _, _, _, h, _ => h
theorem Rs.mono : ∀ {xs : List PV} {vs : List V} {a b : AS}, Rs c H F xs vs a → Sub a b → Rs c H F xs vs b
  | [], _, _, _, h, _ => h
  | x :: xs, _, _, _, ⟨v, vs', b, d, e, sb, sd, k, r, rs⟩, s => ⟨v, vs', b, d, e, sb.trans s, sd.trans s, k, r, rs⟩
end
theorem not_mu {p : Addr} {o : HO} (g : Good H F A) (e : H p = some o) (n : ¬ Mu o) : ¬ A p := fun x => by
  obtain ⟨_, o', e', m⟩ := g.own p x
  rw [e] at e'; cases e'
  exact n m
theorem SqT.step {p : Addr} {vs : List V} (g : Good H F A) (s : Stp H F A H' F' A') (h : SqT c.K H p vs) : SqT c.K H' p vs := by
  have nm : ∀ o, H p = some o → ¬ Mu o → ¬ A p := fun o e n x => by
    obtain ⟨_, o', e', m⟩ := g.own p x
    rw [e] at e'; cases e'
    exact n m
  rcases h with (h | ⟨o, h⟩) | h
  · exact .inl (.inl (s.keep _ _ h (nm _ h id)))
  · exact .inl (.inr ⟨o, s.keep _ _ h (nm _ h id)⟩)
  · exact .inr h
theorem SqB.step {p : Addr} {vs : List V} (g : Good H F A) (s : Stp H F A H' F' A') (h : SqB c.K H p vs) : SqB c.K H' p vs := by
  rcases h with ⟨o, h, b⟩ | h
  · exact .inl ⟨o, s.keep _ _ h (not_mu g h id), b⟩
  · exact .inr h
theorem FzL.step {p : Addr} {vs : List V} (g : Good H F A) (s : Stp H F A H' F' A') (h : FzL H F p vs) : FzL H' F' p vs := by
  rcases h with ⟨h | ⟨o, h⟩, f⟩
  · exact ⟨.inl (s.keep _ _ h fun x => (g.own p x).1 f), s.mono p f⟩
  · exact ⟨.inr ⟨o, s.keep _ _ h fun x => (g.own p x).1 f⟩, s.mono p f⟩
mutual
/-- what others own is as it was behind a step -/
theorem R.step (g : Good H F A) (s : Stp H F A H' F' A') : ∀ {x : PV} {v : V} {a : AS}, R c H F x v a → Dis a A → R c H' F' x v a
  | .non, _, _, h, _ => h
  | .bl _, _, _, h, _ => h
  | .int _, _, _, h, _ => h
  | .str _, _, _, h, _ => h
  | .con _, _, _, h, _ => h
  | .exc k xs, _, _, ⟨p, dd, vs, e, ⟨q, f⟩, z, r⟩, d => ⟨p, dd, vs, e, ⟨s.keep _ _ q fun x => (g.own p x).1 f, s.mono p f⟩, z.imp_right (fun ⟨y, e1, l, h1⟩ => ⟨y, e1, l, s.keep _ _ h1 (not_mu g h1 id)⟩), Rs.step g s r Dis.empl⟩
  | .st true xs, _, _, ⟨p, L, vs, e, q, m, z, r⟩, d => ⟨p, L, vs, e, s.keep _ _ q (fun x => d p m x), m, z, Rs.step g s r Dis.empl⟩
  | .st false xs, _, _, ⟨p, e, f⟩, d => ⟨p, e, s.mono p f⟩
  | .tup xs, _, _, ⟨p, vs, e, ⟨q, l⟩, r⟩, d => ⟨p, vs, e, ⟨SqB.step g s q, l⟩, Rs.step g s r d⟩
  | .lst true xs, _, _, ⟨p, vs, a', e, l, q, m, n, t, r⟩, d => ⟨p, vs, a', e, l, s.keep _ _ q (fun x => d p m x), m, n, t, Rs.step g s r (d.mono t (Sub.refl _))⟩
  | .lst false xs, _, _, ⟨p, vs, e, ⟨q, l⟩, r⟩, d => ⟨p, vs, e, ⟨q.step g s, l⟩, Rs.step g s r Dis.empl⟩
  | .dct true ks xs, _, _, ⟨p, vs, a', e, l, q, m, n, t, r⟩, d => ⟨p, vs, a', e, l, s.keep _ _ q (fun x => d p m x), m, n, t, Rs.step g s r (d.mono t (Sub.refl _))⟩
  | .dct false ks xs, _, _, ⟨p, vs, e, l, ⟨q, f⟩, r⟩, d => ⟨p, vs, e, l, ⟨q.elim (fun q => .inl (s.keep _ _ q fun x => (g.own p x).1 f)) (fun ⟨o, q⟩ => .inr ⟨o, s.keep _ _ q fun x => (g.own p x).1 f⟩), s.mono p f⟩, Rs.step g s r Dis.empl⟩
  | .ins true k xs, _, _, ⟨p, dx, vs, a', e, l, q, m, n, t, r⟩, d => ⟨p, dx, vs, a', e, l, s.keep _ _ q (fun x => d p m x), m, n, t, Rs.step g s r (d.mono t (Sub.refl _))⟩
  | .ins false k xs, _, _, ⟨p, dx, vs, e, l, ⟨q, f⟩, r⟩, d => ⟨p, dx, vs, e, l, ⟨s.keep _ _ q fun x => (g.own p x).1 f, s.mono p f⟩, Rs.step g s r Dis.empl⟩
theorem Rs.step (g : Good H F A) (s : Stp H F A H' F' A') : ∀ {xs : List PV} {vs : List V} {a : AS}, Rs c H F xs vs a → Dis a A → Rs c H' F' xs vs a
  | [], _, _, h, _ => h
  | x :: xs, _, _, ⟨v, vs', b, d, e, sb, sd, k, r, rs⟩, dd => ⟨v, vs', b, d, e, sb, sd, k, R.step g s r (dd.mono sb (Sub.refl _)), Rs.step g s rs (dd.mono sd (Sub.refl _))⟩
end
mutual
/-- a frozen tree leans on no owned node -/
theorem R.emp : ∀ {x : PV} {v : V} {a : AS}, R c H F x v a → fro x = true → R c H F x v Emp
  | .non, _, _, h, _ => h
  | .bl _, _, _, h, _ => h
  | .int _, _, _, h, _ => h
  | .str _, _, _, h, _ => h
  | .con _, _, _, h, _ => h
  | .exc _ _, _, _, h, _ => h
  | .st true xs, _, _, h, f => by rw [fro] at f; simp at f
  | .st false xs, _, _, h, _ => h
  | .tup xs, _, _, ⟨p, vs, e, q, r⟩, f => ⟨p, vs, e, q, Rs.emp r (by rw [fro] at f; exact f)⟩
  | .lst true xs, _, _, h, f => by rw [fro] at f; simp at f
  | .lst false xs, _, _, h, _ => h
  | .dct true ks xs, _, _, h, f => by rw [fro] at f; simp at f
  | .dct false ks xs, _, _, h, _ => h
  | .ins true k xs, _, _, h, f => by rw [fro] at f; simp at f
  | .ins false k xs, _, _, h, _ => h
theorem Rs.emp : ∀ {xs : List PV} {vs : List V} {a : AS}, Rs c H F xs vs a → fros xs = true → Rs c H F xs vs Emp
  | [], _, _, h, _ => h
  | x :: xs, _, _, ⟨v, vs', b, d, e, sb, sd, k, r, rs⟩, f => by
    rw [fros] at f; simp only [Bool.and_eq_true] at f
    exact ⟨v, vs', Emp, Emp, e, Sub.emp, Sub.emp, Dis.empl, R.emp r f.1, Rs.emp rs f.2⟩
end
/-- F grows by what a tree owns: the tree is frozen -/
theorem R.up {F' : AS} (hF : Sub F F') : ∀ {x : PV} {v : V} {a : AS}, R c H F x v a → R c H F' x v a := by
  have key : (∀ (x : PV) (v : V) (a : AS), R c H F x v a → R c H F' x v a) := by
    intro x
    refine PV.rec (motive_1 := fun x => ∀ v a, R c H F x v a → R c H F' x v a) (motive_2 := fun xs => ∀ vs a, Rs c H F xs vs a → Rs c H F' xs vs a)
      (fun _ _ h => h) (fun _ _ _ h => h) (fun _ _ _ h => h) (fun _ _ _ h => h) (fun xs ih v a h => ?_) (fun w xs ih v a h => ?_) (fun w ks xs ih v a h => ?_) (fun w k xs ih v a h => ?_) (fun _ _ _ h => h) (fun k xs ih v a h => ?_) (fun w xs ih v a h => ?_) (fun _ _ h => h) (fun x xs i1 i2 vs a h => ?_) x
    · obtain ⟨p, vs, e, q, r⟩ := h; exact ⟨p, vs, e, q, ih _ _ r⟩
    · cases w with
      | true => obtain ⟨p, vs, a', e, l, q, m, n, t, r⟩ := h; exact ⟨p, vs, a', e, l, q, m, n, t, ih _ _ r⟩
      | false => obtain ⟨p, vs, e, ⟨q, l⟩, r⟩ := h; exact ⟨p, vs, e, ⟨⟨q.1, hF p q.2⟩, l⟩, ih _ _ r⟩
    · cases w with
      | true => obtain ⟨p, vs, a', e, l, q, m, n, t, r⟩ := h; exact ⟨p, vs, a', e, l, q, m, n, t, ih _ _ r⟩
      | false => obtain ⟨p, vs, e, l, q, r⟩ := h; exact ⟨p, vs, e, l, ⟨q.1, hF p q.2⟩, ih _ _ r⟩
    · cases w with
      | true => obtain ⟨p, dx, vs, a', e, l, q, m, n, t, r⟩ := h; exact ⟨p, dx, vs, a', e, l, q, m, n, t, ih _ _ r⟩
      | false => obtain ⟨p, dx, vs, e, l, q, r⟩ := h; exact ⟨p, dx, vs, e, l, ⟨q.1, hF p q.2⟩, ih _ _ r⟩
    · obtain ⟨p, d, vs, e, q, z, r⟩ := h; exact ⟨p, d, vs, e, ⟨q.1, hF p q.2⟩, z, ih _ _ r⟩
    · cases w with
      | true => obtain ⟨p, L, vs, e, q, m, z, r⟩ := h; exact ⟨p, L, vs, e, q, m, z, ih _ _ r⟩
      | false => obtain ⟨p, e, f⟩ := h; exact ⟨p, e, hF p f⟩
    · obtain ⟨v, vs', b, d, e, sb, sd, k, r, rs⟩ := h; exact ⟨v, vs', b, d, e, sb, sd, k, i1 _ _ r, i2 _ _ rs⟩
  intro x v a h
  exact key x v a h
theorem Rs.up {F' : AS} (hF : Sub F F') : ∀ {xs : List PV} {vs : List V} {a : AS}, Rs c H F xs vs a → Rs c H F' xs vs a
  | [], _, _, h => h
  | x :: xs, _, _, ⟨v, vs', b, d, e, sb, sd, k, r, rs⟩ => ⟨v, vs', b, d, e, sb, sd, k, R.up hF r, Rs.up hF rs⟩
mutual
theorem R.frz : ∀ {x : PV} {v : V} {a : AS}, R c H F x v a → (∀ p, a p → F p) → R c H F (Tr.frz x) v Emp
  | .non, _, _, h, _ => h
  | .bl _, _, _, h, _ => h
  | .int _, _, _, h, _ => h
  | .str _, _, _, h, _ => h
  | .con _, _, _, h, _ => h
  | .exc k xs, _, _, ⟨p, d, vs, e, q, z, r⟩, s => by
    rw [Tr.frz]
    refine ⟨p, d, vs, e, q, ?_, Rs.frz r fun _ x => x.elim⟩
    rcases z with ⟨z1, z2⟩ | ⟨y, e1, l, h1⟩
    · exact .inl ⟨by rw [z1]; rfl, z2⟩
    · exact .inr ⟨y, e1, by rw [frzs_eq, List.length_map]; exact l, h1⟩
  | .st true xs, _, _, ⟨p, L, vs, e, q, m, z, r⟩, s => by rw [Tr.frz]; exact ⟨p, e, s p m⟩
  | .st false xs, _, _, ⟨p, e, f⟩, s => by rw [Tr.frz]; exact ⟨p, e, f⟩
  | .tup xs, _, _, ⟨p, vs, e, ⟨q, l⟩, r⟩, s => by rw [Tr.frz]; exact ⟨p, vs, e, ⟨q, by rw [frzs_eq, List.length_map]; exact l⟩, Rs.frz r s⟩
  | .lst true xs, _, _, ⟨p, vs, a', e, l, q, m, n, t, r⟩, s => by rw [Tr.frz]; exact ⟨p, vs, e, ⟨⟨.inl q, s p m⟩, by rw [frzs_eq, List.length_map]; exact l⟩, Rs.frz r fun q x => s q (t q x)⟩
  | .lst false xs, _, _, ⟨p, vs, e, ⟨q, l⟩, r⟩, s => by rw [Tr.frz]; exact ⟨p, vs, e, ⟨q, by rw [frzs_eq, List.length_map]; exact l⟩, Rs.frz r fun _ x => x.elim⟩
  | .dct true ks xs, _, _, ⟨p, vs, a', e, l, q, m, n, t, r⟩, s => by rw [Tr.frz]; exact ⟨p, vs, e, (by rw [frzs_eq, List.length_map]; exact l), ⟨.inl q, s p m⟩, Rs.frz r fun q x => s q (t q x)⟩
  | .dct false ks xs, _, _, ⟨p, vs, e, l, q, r⟩, s => by rw [Tr.frz]; exact ⟨p, vs, e, (by rw [frzs_eq, List.length_map]; exact l), q, Rs.frz r fun _ x => x.elim⟩
  | .ins true k xs, _, _, ⟨p, dx, vs, a', e, l, q, m, n, t, r⟩, s => by rw [Tr.frz]; exact ⟨p, dx, vs, e, (by rw [frzs_eq, List.length_map]; exact l), ⟨q, s p m⟩, Rs.frz r fun q x => s q (t q x)⟩
  | .ins false k xs, _, _, ⟨p, dx, vs, e, l, q, r⟩, s => by rw [Tr.frz]; exact ⟨p, dx, vs, e, (by rw [frzs_eq, List.length_map]; exact l), q, Rs.frz r fun _ x => x.elim⟩
theorem Rs.frz : ∀ {xs : List PV} {vs : List V} {a : AS}, Rs c H F xs vs a → (∀ p, a p → F p) → Rs c H F (Tr.frzs xs) vs Emp
  | [], _, _, h, _ => h
  | x :: xs, _, _, ⟨v, vs', b, d, e, sb, sd, k, r, rs⟩, s => by
    rw [Tr.frzs]
    exact ⟨v, vs', Emp, Emp, e, Sub.emp, Sub.emp, Dis.empl, R.frz r fun p x => s p (sb p x), Rs.frz rs fun p x => s p (sd p x)⟩
end
/-- freezing is a step -/
theorem Stp.freeze {a : AS} (sub : Sub a A) : Stp H F A H (Uni F a) (fun p => A p ∧ ¬ a p) :=
  ⟨fun _ _ h _ => h, fun _ h => h, fun _ h => .inl h, fun p h => h.imp_right fun z => .inr (sub p z), fun p h => .inr h.1⟩
theorem Good.freeze {a : AS} (g : Good H F A) (sub : Sub a A) : Good H (Uni F a) (fun p => A p ∧ ¬ a p) :=
  ⟨fun p h => ⟨fun z => z.elim (g.own p h.1).1 h.2, (g.own p h.1).2⟩, fun p h => h.elim (g.fro p) fun z => let ⟨_, o, e, _⟩ := g.own p (sub p z); ⟨o, e⟩⟩
/-! ### lists of trees -/
theorem Rs.len : ∀ {xs : List PV} {vs : List V} {a : AS}, Rs c H F xs vs a → vs.length = xs.length
  | [], _, _, h => by rw [show _ = [] from h]; rfl
  | x :: xs, _, _, ⟨v, vs', b, d, e, sb, sd, k, r, rs⟩ => by rw [e, List.length_cons, List.length_cons, rs.len]
theorem Rs.get : ∀ {xs : List PV} {vs : List V} {a : AS} {i : Nat} {x : PV}, Rs c H F xs vs a → xs[i]? = some x → ∃ v b, vs[i]? = some v ∧ Sub b a ∧ R c H F x v b
  | [], _, _, _, _, _, e => by simp at e
  | y :: ys, _, _, 0, x, ⟨v, vs', b, d, e, sb, sd, k, r, rs⟩, h => by
    simp at h; subst h
    exact ⟨v, b, by rw [e]; rfl, sb, r⟩
  | y :: ys, _, _, i + 1, x, ⟨v, vs', b, d, e, sb, sd, k, r, rs⟩, h => by
    obtain ⟨v', b', h1, h2, h3⟩ := rs.get (i := i) (x := x) (by simpa using h)
    exact ⟨v', b', by rw [e]; simpa using h1, h2.trans sd, h3⟩
theorem Rs.append : ∀ {xs ys : List PV} {vs ws : List V} {a b : AS}, Rs c H F xs vs a → Rs c H F ys ws b → Dis a b → Rs c H F (xs ++ ys) (vs ++ ws) (Uni a b)
  | [], ys, vs, ws, a, b, h, k, d => by rw [show vs = [] from h]; exact Rs.mono k Sub.r
  | x :: xs, ys, _, ws, a, b, ⟨v, vs', b1, d1, e, sb, sd, kk, r, rs⟩, k, d => by
    subst e
    refine ⟨v, vs' ++ ws, b1, Uni d1 b, rfl, sb.trans Sub.l, Sub.uni (sd.trans Sub.l) Sub.r, ?_, r, Rs.append rs k (d.mono sd (Sub.refl _))⟩
    exact fun p x y => y.elim (kk p x) fun z => d p (sb p x) z
theorem Rs.one {x : PV} {v : V} {a : AS} (r : R c H F x v a) : Rs c H F [x] [v] a := ⟨v, [], a, Emp, rfl, Sub.refl _, Sub.emp, Dis.empr, r, rfl⟩
theorem Rs.of_emp : ∀ {xs : List PV} {vs : List V}, vs.length = xs.length → (∀ (i : Nat) (x : PV) (v : V), xs[i]? = some x → vs[i]? = some v → R c H F x v Emp) → Rs c H F xs vs Emp
  | [], vs, l, _ => by cases vs with | nil => rfl | cons _ _ => cases l
  | x :: xs, vs, l, h => by
    cases vs with
    | nil => cases l
    | cons v vs => exact ⟨v, vs, Emp, Emp, rfl, Sub.emp, Sub.emp, Dis.empl, h 0 x v rfl rfl, Rs.of_emp (by simpa using l) fun i y w e1 e2 => h (i + 1) y w (by simpa using e1) (by simpa using e2)⟩
/-- the i-th taken out, and another one put there -/
theorem Rs.focus : ∀ {xs : List PV} {vs : List V} {a : AS} {i : Nat} {x : PV}, Rs c H F xs vs a → xs[i]? = some x →
    ∃ v b d, vs[i]? = some v ∧ Sub b a ∧ Sub d a ∧ Dis b d ∧ R c H F x v b ∧ (∀ (H' : Hp) (F' : AS) (y : PV) (w : V) (b' d' : AS), (∀ (x : PV) (v : V) (a : AS), Sub a d → R c H F x v a → R c H' F' x v a) → R c H' F' y w b' → Dis b' d → Rs c H' F' (xs.set i y) (vs.set i w) (Uni b' d))
  | [], _, _, _, _, _, e => by simp at e
  | y :: ys, _, _, 0, x, ⟨v, vs', b, d, e, sb, sd, k, r, rs⟩, h => by
    simp at h; subst h; subst e
    refine ⟨v, b, d, rfl, sb, sd, k, r, fun H' F' y w b' _ up ry dy => ⟨w, vs', b', d, rfl, Sub.l, Sub.r, dy, ry, ?_⟩⟩
    have go : ∀ (zs : List PV) (us : List V) (e : AS), Sub e d → Rs c H F zs us e → Rs c H' F' zs us e := by
      intro zs
      induction zs with
      | nil => intro us e _ h; exact h
      | cons z zs ih =>
        intro us e se ⟨v, vs', b, d, e', sb, sd, k, r, rs⟩
        exact ⟨v, vs', b, d, e', sb, sd, k, up _ _ _ (sb.trans se) r, ih _ _ (sd.trans se) rs⟩
    exact go _ _ _ (Sub.refl _) rs
  | y :: ys, _, _, i + 1, x, ⟨v, vs', b, d, e, sb, sd, k, r, rs⟩, h => by
    subst e
    obtain ⟨v', b', d', h1, h2, h3, h4, h5, h6⟩ := rs.focus (i := i) (x := x) (by simpa using h)
    refine ⟨v', b', Uni b d', by simpa using h1, h2.trans sd, Sub.uni sb (h3.trans sd), ?_, h5, fun H' F' y w b2 dd up ry dy => ?_⟩
    · exact fun p x z => z.elim (fun z => k p z (h2 p x)) (h4 p x)
    · have rest := h6 H' F' y w b2 dd (fun x v a sa r => up x v a (sa.trans Sub.r) r) ry (dy.mono (Sub.refl _) Sub.r)
      refine ⟨v, vs'.set i w, b, Uni b2 d', rfl, Sub.l.trans Sub.r, ?_, ?_, up _ _ _ Sub.l r, rest⟩
      · exact Sub.uni Sub.l (Sub.r.trans Sub.r)
      · exact fun p x z => z.elim (fun z => dy p z (.inl x)) fun z => k p x (h3 p z)
end
end Tr
set_option Elab.async false
set_option linter.all false
set_option maxRecDepth 100000
/-! Tr.J: the slots, the judgements, operands. -/
namespace Tr
open PySem PySem.Spec L2
section
variable (c : RC) (H : Hp) (F : AS)
def RE : Env → St → AS → Prop
  | [], σ, _ => σ = []
  | none :: ρ, σ, a => ∃ s σ', σ = s :: σ' ∧ RE ρ σ' a
  | some x :: ρ, σ, a => ∃ v σ' b d, σ = some v :: σ' ∧ Sub b a ∧ Sub d a ∧ Dis b d ∧ R c H F x v b ∧ RE ρ σ' d
end
section
variable {c : RC} {H H' : Hp} {F F' A A' : AS}
theorem RE.len : ∀ {ρ : Env} {σ : St} {a : AS}, RE c H F ρ σ a → σ.length = ρ.length
  | [], _, _, h => by rw [show _ = [] from h]; rfl
  | none :: ρ, _, _, ⟨s, σ', e, h⟩ => by rw [e, List.length_cons, List.length_cons, h.len]
  | some x :: ρ, _, _, ⟨v, σ', b, d, e, _, _, _, _, h⟩ => by rw [e, List.length_cons, List.length_cons, h.len]
theorem RE.mono : ∀ {ρ : Env} {σ : St} {a b : AS}, RE c H F ρ σ a → Sub a b → RE c H F ρ σ b
  | [], _, _, _, h, _ => h
  | none :: ρ, _, _, _, ⟨s, σ', e, h⟩, k => ⟨s, σ', e, h.mono k⟩
  | some x :: ρ, _, _, _, ⟨v, σ', b, d, e, sb, sd, dd, r, h⟩, k => ⟨v, σ', b, d, e, sb.trans k, sd.trans k, dd, r, h⟩
theorem RE.step (g : Good H F A) (s : Stp H F A H' F' A') : ∀ {ρ : Env} {σ : St} {a : AS}, RE c H F ρ σ a → Dis a A → RE c H' F' ρ σ a
  | [], _, _, h, _ => h
  | none :: ρ, _, _, ⟨u, σ', e, h⟩, d => ⟨u, σ', e, RE.step g s h d⟩
  | some x :: ρ, _, _, ⟨v, σ', b, dd, e, sb, sd, k, r, h⟩, d => ⟨v, σ', b, dd, e, sb, sd, k, R.step g s r (d.mono sb (Sub.refl _)), RE.step g s h (d.mono sd (Sub.refl _))⟩
theorem RE.up {F' : AS} (hF : Sub F F') : ∀ {ρ : Env} {σ : St} {a : AS}, RE c H F ρ σ a → RE c H F' ρ σ a
  | [], _, _, h => h
  | none :: ρ, _, _, ⟨u, σ', e, h⟩ => ⟨u, σ', e, RE.up hF h⟩
  | some x :: ρ, _, _, ⟨v, σ', b, dd, e, sb, sd, k, r, h⟩ => ⟨v, σ', b, dd, e, sb, sd, k, R.up hF r, RE.up hF h⟩
theorem slot_cons (o : Option PV) (ρ : Env) : slot (o :: ρ) 0 = o := by cases o <;> rfl
theorem slot_succ (o : Option PV) (ρ : Env) (i : Nat) : slot (o :: ρ) (i + 1) = slot ρ i := rfl
/-- a slot is looked at -/
theorem RE.look : ∀ {ρ : Env} {σ : St} {a : AS} {i : Nat} {x : PV}, RE c H F ρ σ a → slot ρ i = some x → ∃ v b, σ[i]? = some (some v) ∧ Sub b a ∧ R c H F x v b
  | [], _, _, _, _, _, e => by simp [slot] at e
  | none :: ρ, _, _, 0, x, _, e => by rw [slot_cons] at e; cases e
  | some y :: ρ, _, _, 0, x, ⟨v, σ', b, d, es, sb, sd, dd, r, h⟩, e => by
    rw [slot_cons] at e; cases e
    exact ⟨v, b, by rw [es]; rfl, sb, r⟩
  | none :: ρ, _, _, i + 1, x, ⟨s, σ', es, h⟩, e => by
    rw [slot_succ] at e
    obtain ⟨v, b, h1, h2, h3⟩ := RE.look (i := i) h e
    exact ⟨v, b, by rw [es]; simpa using h1, h2, h3⟩
  | some y :: ρ, _, _, i + 1, x, ⟨v, σ', b, d, es, sb, sd, dd, r, h⟩, e => by
    rw [slot_succ] at e
    obtain ⟨v', b', h1, h2, h3⟩ := RE.look (i := i) h e
    exact ⟨v', b', by rw [es]; simpa using h1, h2.trans sd, h3⟩
/-- a slot is forgotten -/
theorem RE.wipe : ∀ {ρ : Env} {σ : St} {a : AS} (i : Nat), RE c H F ρ σ a → RE c H F (ρ.set i none) σ a
  | [], _, _, _, h => h
  | none :: ρ, _, _, 0, h => h
  | some y :: ρ, _, _, 0, ⟨v, σ', b, d, es, sb, sd, dd, r, h⟩ => ⟨some v, σ', es, h.mono sd⟩
  | none :: ρ, _, _, i + 1, ⟨s, σ', es, h⟩ => ⟨s, σ', es, RE.wipe i h⟩
  | some y :: ρ, _, _, i + 1, ⟨v, σ', b, d, es, sb, sd, dd, r, h⟩ => ⟨v, σ', b, d, es, sb, sd, dd, r, RE.wipe i h⟩
/-- a slot is taken out -/
theorem RE.take : ∀ {ρ : Env} {σ : St} {a : AS} {i : Nat} {x : PV}, RE c H F ρ σ a → slot ρ i = some x →
    ∃ v b d, σ[i]? = some (some v) ∧ Sub b a ∧ Sub d a ∧ Dis b d ∧ R c H F x v b ∧ RE c H F (ρ.set i none) σ d
  | [], _, _, _, _, _, e => by simp [slot] at e
  | none :: ρ, _, _, 0, x, _, e => by rw [slot_cons] at e; cases e
  | some y :: ρ, _, _, 0, x, ⟨v, σ', b, d, es, sb, sd, dd, r, h⟩, e => by
    rw [slot_cons] at e; cases e
    exact ⟨v, b, d, by rw [es]; rfl, sb, sd, dd, r, some v, σ', es, h⟩
  | none :: ρ, _, _, i + 1, x, ⟨s, σ', es, h⟩, e => by
    rw [slot_succ] at e
    obtain ⟨v, b, d, h1, h2, h3, h4, h5, h6⟩ := RE.take (i := i) h e
    exact ⟨v, b, d, by rw [es]; simpa using h1, h2, h3, h4, h5, s, σ', es, h6⟩
  | some y :: ρ, _, _, i + 1, x, ⟨v, σ', b, d, es, sb, sd, dd, r, h⟩, e => by
    rw [slot_succ] at e
    obtain ⟨v', b', d', h1, h2, h3, h4, h5, h6⟩ := RE.take (i := i) h e
    refine ⟨v', b', Uni b d', by rw [es]; simpa using h1, h2.trans sd, Sub.uni sb (h3.trans sd), ?_, h5, v, σ', b, d', es, Sub.l, Sub.r, dd.mono (Sub.refl _) h3, r, h6⟩
    exact fun p x z => z.elim (fun z => dd p z (h2 p x)) (h4 p x)
/-- a slot is filled: with what stands in σ there -/
theorem RE.put : ∀ {ρ : Env} {σ : St} {a b : AS} {i : Nat} {x : PV} {v : V}, RE c H F ρ σ a → σ[i]? = some (some v) → R c H F x v b → Dis b a → RE c H F (ρ.set i (some x)) σ (Uni b a)
  | [], _, _, _, _, _, _, h, e, _, _ => by rw [show _ = [] from h] at e; simp at e
  | none :: ρ, _, _, _, 0, x, v, ⟨s, σ', es, h⟩, e, r, d => by
    rw [es] at e; simp at e
    exact ⟨v, σ', _, _, by rw [es, e], Sub.l, Sub.r, d, r, h⟩
  | some y :: ρ, _, _, _, 0, x, v, ⟨w, σ', b, dd, es, sb, sd, k, rr, h⟩, e, r, d => by
    rw [es] at e; simp at e
    exact ⟨v, σ', _, _, by rw [es, e], Sub.l, Sub.r, d, r, h.mono sd⟩
  | none :: ρ, _, _, _, i + 1, x, v, ⟨s, σ', es, h⟩, e, r, d => by
    rw [es] at e
    exact ⟨s, σ', es, RE.put (i := i) h (by simpa using e) r d⟩
  | some y :: ρ, _, _, _, i + 1, x, v, ⟨w, σ', b, dd, es, sb, sd, k, rr, h⟩, e, r, d => by
    rw [es] at e
    refine ⟨w, σ', b, _, es, sb.trans Sub.r, Sub.uni Sub.l (sd.trans Sub.r), ?_, rr, RE.put (i := i) h (by simpa using e) r (d.mono (Sub.refl _) sd)⟩
    exact fun p z q => q.elim (fun q => d p q (sb p z)) (k p z)
/-- a slot is stored to -/
theorem RE.store : ∀ {ρ : Env} {σ : St} {a b : AS} {i : Nat} {x : PV} {v : V}, RE c H F ρ σ a → i < ρ.length → R c H F x v b → Dis b a → RE c H F (ρ.set i (some x)) (σ.set i (some v)) (Uni b a)
  | [], _, _, _, _, _, _, h, e, _, _ => by simp at e
  | none :: ρ, _, _, _, 0, x, v, ⟨s, σ', es, h⟩, e, r, d => by subst es; exact ⟨v, σ', _, _, rfl, Sub.l, Sub.r, d, r, h⟩
  | some y :: ρ, _, _, _, 0, x, v, ⟨w, σ', b, dd, es, sb, sd, k, rr, h⟩, e, r, d => by subst es; exact ⟨v, σ', _, _, rfl, Sub.l, Sub.r, d, r, h.mono sd⟩
  | none :: ρ, _, _, _, i + 1, x, v, ⟨s, σ', es, h⟩, e, r, d => by
    subst es
    exact ⟨s, σ'.set i (some v), rfl, RE.store (i := i) h (by simpa using e) r d⟩
  | some y :: ρ, _, _, _, i + 1, x, v, ⟨w, σ', b, dd, es, sb, sd, k, rr, h⟩, e, r, d => by
    subst es
    refine ⟨w, σ'.set i (some v), b, _, rfl, sb.trans Sub.r, Sub.uni Sub.l (sd.trans Sub.r), ?_, rr, RE.store (i := i) h (by simpa using e) r (d.mono (Sub.refl _) sd)⟩
    exact fun p z q => q.elim (fun q => d p q (sb p z)) (k p z)
theorem RE.start : ∀ {xs : List PV} {vs : List V} {a : AS} (n : Nat), Rs c H F xs vs a → RE c H F (xs.map some ++ List.replicate n none) (vs.map some ++ List.replicate n none) a
  | [], vs, a, n, h => by
    rw [show vs = [] from h]
    show RE c H F (List.replicate n none) (List.replicate n none) a
    induction n with
    | zero => rfl
    | succ n ih => exact ⟨none, List.replicate n none, rfl, ih⟩
  | x :: xs, _, a, n, ⟨v, vs', b, d, e, sb, sd, k, r, rs⟩ => by
    subst e
    exact ⟨v, _, b, d, rfl, sb, sd, k, r, RE.start n rs⟩
end
/-- an exception as it flies: its class, its dict's fields, all frozen -/
def RX (c : RC) (H : Hp) (F : AS) (e : PExc) (cls : Value) (d : Option Addr) : Prop :=
  cls = .ref (c.cA e.cls) ∧ if e.vals = [] then d = none else ∃ dd vs, d = some dd ∧ e.vals.length ≤ (c.cF e.cls).length ∧ H dd = some (.xd ((c.cF e.cls).zip vs)) ∧ Rs c H F e.vals vs Emp
/-! ### behind an evaluation -/
section
variable {α β ν μ : Type} (c : RC) (W : WX)
/-- r: what the plain function yields; its value and the machine's are related by rel, in a footprint -/
def Post (rel : Hp → AS → α → ν → AS → Prop) (σ : St) (H : Hp) (F A : AS) (r : Res α) (Q : ν → Hp → Prop) : Prop := match r with
  | .ok v ρ' => ∀ x H' F' a b, Stp H F A H' F' (Uni a b) → Good H' F' (Uni a b) → Dis a b → rel H' F' v x a → RE c H' F' ρ' σ b → Q x H'
  | .er e ρ' => ∀ cls d H' F' b, Stp H F A H' F' b → Good H' F' b → RX c H' F' e cls d → RE c H' F' ρ' σ b → W cls d σ H'
  | .bad => False
def tG (rel : Hp → AS → α → ν → AS → Prop) (f : Env → Res α) : St → Hp → (ν → Hp → Prop) → Prop := fun σ H Q =>
  ∃ ρ F A, Good H F A ∧ RE c H F ρ σ A ∧ Post c W rel σ H F A (f ρ) Q
def relE : Hp → AS → PV → V → AS → Prop := fun H F v x a => R c H F v x a
def relB : Hp → AS → Bool → Bool → AS → Prop := fun _ _ v x _ => x = v
abbrev tEx (f : EF) : TE := tG c W (relE c) f
abbrev tTs (t : TF) : TT := tG c W relB t
end
section
variable {α β ν μ : Type} {c : RC} {W : WX} {rel : Hp → AS → α → ν → AS → Prop} {rel' : Hp → AS → β → μ → AS → Prop} {σ : St} {H H1 : Hp} {F A F1 A1 : AS}
theorem Post.base {r : Res α} {Q : ν → Hp → Prop} (h : Post c W rel σ H F A r Q) (s : Stp H F A H1 F1 A1) : Post c W rel σ H1 F1 A1 r Q := by
  cases r with
  | ok v ρ' => exact fun x H' F' a b t g d r e => h x H' F' a b (s.trans t) g d r e
  | er x ρ' => exact fun cls d H' F' b t g r e => h cls d H' F' b (s.trans t) g r e
  | bad => exact h
theorem Post.sub {r : Res α} {Q : ν → Hp → Prop} (h : Post c W rel σ H F A r Q) (s : Sub A1 A) : Post c W rel σ H F A1 r Q := by
  cases r with
  | ok v ρ' => exact fun x H' F' a b t g d r e => h x H' F' a b (t.more s) g d r e
  | er x ρ' => exact fun cls d H' F' b t g r e => h cls d H' F' b (t.more s) g r e
  | bad => exact h
theorem Post.imp {r : Res α} {Q Q' : ν → Hp → Prop} (h : Post c W rel σ H F A r Q) (k : ∀ x H, Q x H → Q' x H) : Post c W rel σ H F A r Q' := by
  cases r with
  | ok v ρ' => exact fun x H' F' a b t g d r e => k _ _ (h x H' F' a b t g d r e)
  | er x ρ' => exact h
  | bad => exact h
/-- one thing after another, beside temporaries that own t -/
theorem tG.next {f : Env → Res α} {g : α → Env → Res β} {Q : μ → Hp → Prop} {K : ν → Hp → Prop} {ρ : Env} {t b : AS}
    (gd : Good H F A) (st : Sub t A) (sb : Sub b A) (d : Dis t b) (e : RE c H F ρ σ b) (p : Post c W rel' σ H F A ((f ρ).bind g) Q)
    (k : ∀ v x ρ1 H1 F1 a1 b1, Good H1 F1 (Uni t (Uni a1 b1)) → Dis t (Uni a1 b1) → Dis a1 b1 → rel H1 F1 v x a1 → RE c H1 F1 ρ1 σ b1 → Stp H F b H1 F1 (Uni a1 b1) →
      Post c W rel' σ H1 F1 (Uni t (Uni a1 b1)) (g v ρ1) Q → K x H1) : tG c W rel f σ H K := by
  refine ⟨ρ, F, b, gd.sub sb, e, ?_⟩
  have all : ∀ {H1 : Hp} {F1 A1 : AS}, Stp H F b H1 F1 A1 → Stp H F A H1 F1 (Uni t A1) := fun s => (s.frame (B := t)).more (Sub.uni st sb)
  cases q : f ρ with
  | ok v ρ1 =>
    rw [q] at p
    intro x H1 F1 a1 b1 s g1 d1 r e1
    have gt : Good H1 F1 t := (gd.sub st).kept s g1 d
    exact k v x ρ1 H1 F1 a1 b1 (gt.uni g1) (s.apart (gd.sub st) d) d1 r e1 s (Post.base p (all s))
  | er x ρ1 =>
    rw [q] at p
    intro cls dd H1 F1 b1 s g1 r e1
    exact p cls dd H1 F1 b1 ((all s).drop Sub.r) g1 r e1
  | bad => rw [q] at p; exact p.elim
/-- with no temporaries -/
theorem tG.bind {f : Env → Res α} {g : α → Env → Res β} {Q : μ → Hp → Prop} {K : ν → Hp → Prop} (h : tG c W rel' (fun ρ => (f ρ).bind g) σ H Q)
    (k : ∀ v x ρ1 H1 F1 a b, Good H1 F1 (Uni a b) → Dis a b → rel H1 F1 v x a → RE c H1 F1 ρ1 σ b → Post c W rel' σ H1 F1 (Uni a b) (g v ρ1) Q → K x H1) : tG c W rel f σ H K := by
  obtain ⟨ρ, F, A, gd, e, p⟩ := h
  refine tG.next (t := Emp) gd Sub.emp (Sub.refl _) Dis.empl e p fun v x ρ1 H1 F1 a1 b1 g1 _ d r e1 s p1 => ?_
  exact k v x ρ1 H1 F1 a1 b1 (g1.sub Sub.r) d r e1 (p1.sub Sub.r)
theorem tG.imp {f : Env → Res α} {Q Q' : ν → Hp → Prop} (h : tG c W rel f σ H Q) (k : ∀ x H, Q x H → Q' x H) : tG c W rel f σ H Q' := by
  obtain ⟨ρ, F, A, gd, e, p⟩ := h
  exact ⟨ρ, F, A, gd, e, p.imp k⟩
/-- nothing more happens: a value of no footprint -/
theorem Post.now {v : α} {x : ν} {ρ : Env} {Q : ν → Hp → Prop} {b : AS} (p : Post c W rel σ H F A (.ok v ρ) Q) (g : Good H F A) (sb : Sub b A) (r : rel H F v x Emp) (e : RE c H F ρ σ b) : Q x H :=
  p x H F Emp b (Stp.refl.drop (Sub.uni Sub.emp sb)) (g.sub (Sub.uni Sub.emp sb)) Dis.empl r e
/-- a value that owns a -/
theorem Post.own {v : α} {x : ν} {ρ : Env} {Q : ν → Hp → Prop} {a b : AS} (p : Post c W rel σ H F A (.ok v ρ) Q) (g : Good H F A) (sa : Sub a A) (sb : Sub b A) (d : Dis a b) (r : rel H F v x a) (e : RE c H F ρ σ b) : Q x H :=
  p x H F a b (Stp.refl.drop (Sub.uni sa sb)) (g.sub (Sub.uni sa sb)) d r e
end
/-! ### the judgements -/
def SE (X : Cx) (c : RC) (W : WX) (e : Expr) (f : EF) : Prop := PE X e (tEx c W f)
def ST (X : Cx) (c : RC) (W : WX) (e : Expr) (t : TF) : Prop := PT X e (tTs c W t)
/-- a reading that asks more -/
theorem PE.weak {X : Cx} {e : Expr} {t t' : TE} (h : PE X e t) (k : ∀ σ H Q, t' σ H Q → t σ H Q) : PE X e t' := ⟨fun pins s σ H Q I q => h.run pins s σ H Q I (k σ H Q q)⟩
theorem PT.weak {X : Cx} {e : Expr} {t t' : TT} (h : PT X e t) (k : ∀ σ H Q, t' σ H Q → t σ H Q) : PT X e t' := ⟨fun pins s σ H Q I q => h.run pins s σ H Q I (k σ H Q q)⟩
theorem PW.weak {X : Cx} {e : Expr} {t t' : TT} (h : PW X e t) (k : ∀ σ H Q, t' σ H Q → t σ H Q) : PW X e t' := ⟨fun wh pins s σ H Q I q => h.run wh pins s σ H Q I (k σ H Q q)⟩
theorem PS.weak {X : Cx} {e : Stmt} {t t' : TS} (h : PS X e t) (k : ∀ D σ H, t' D σ H → t D σ H) : PS X e t' := ⟨fun pins s σ H D I q => h.run pins s σ H D I (k D σ H q)⟩
theorem PSs.weak {X : Cx} {e : List Stmt} {t t' : TS} (h : PSs X e t) (k : ∀ D σ H, t' D σ H → t D σ H) : PSs X e t' := ⟨fun pins s σ H D I q => h.run pins s σ H D I (k D σ H q)⟩
theorem PE.or {X : Cx} {e : Expr} {t t' : TE} (h : PE X e t) (h' : PE X e t') : PE X e (fun σ H Q => t σ H Q ∨ t' σ H Q) := ⟨fun pins s σ H Q I q => q.elim (h.run pins s σ H Q I) (h'.run pins s σ H Q I)⟩
/-! ### operands -/
def tO (c : RC) (W : WX) (o : Opd) : TE := match o with
  | .nm i => tVar i
  | .ev f => tEx c W f
def SO (X : Cx) (c : RC) (W : WX) (e : Expr) (o : Opd) : Prop := PE X e (tO c W o)
theorem so_ev {X : Cx} {c : RC} {W : WX} {e : Expr} {f : EF} (h : SE X c W e f) : SO X c W e (.ev f) := h
theorem so_nm {X : Cx} {c : RC} {W : WX} {e : Expr} {i : Nat} (h : PE X e (tVar i)) : SO X c W e (.nm i) := h
/-- an operand that is evaluated: its value x; what is kept of it on the side -/
def Tmp (c : RC) (σ : St) (H : Hp) (F : AS) (o : Opd) (t : Option PV) (x : V) (a : AS) : Prop := match o with
  | .nm i => σ[i]? = some (some x)
  | .ev _ => ∃ v, t = some v ∧ R c H F v x a
section
variable {β μ : Type} {c : RC} {W : WX} {rel' : Hp → AS → β → μ → AS → Prop} {σ : St} {H H' : Hp} {F A F' A' : AS}
theorem Tmp.step {o : Opd} {t : Option PV} {x : V} {a : AS} (g : Good H F A) (s : Stp H F A H' F' A') (h : Tmp c σ H F o t x a) (d : Dis a A) : Tmp c σ H' F' o t x a := by
  cases o with
  | nm i => exact h
  | ev f => obtain ⟨v, e, r⟩ := h; exact ⟨v, e, R.step g s r d⟩
/-- what the operand is at the end -/
theorem Tmp.get {o : Opd} {t : Option PV} {x : V} {a b : AS} {ρ : Env} {v : PV} (h : Tmp c σ H F o t x a) (e : RE c H F ρ σ b) (q : o.get t ρ = some v) : ∃ d, Sub d (Uni a b) ∧ R c H F v x d := by
  cases o with
  | nm i =>
    obtain ⟨w, d, h1, h2, h3⟩ := e.look (i := i) q
    have q1 : σ[i]? = some (some x) := h
    rw [q1] at h1; cases h1
    exact ⟨d, h2.trans Sub.r, h3⟩
  | ev f =>
    obtain ⟨w, e, r⟩ := h
    have : t = some v := q
    rw [this] at e; cases e
    exact ⟨a, Sub.l, r⟩
theorem tO.next {o : Opd} {g : Option PV → Env → Res β} {Q : μ → Hp → Prop} {K : VK} {ρ : Env} {t b : AS}
    (gd : Good H F A) (st : Sub t A) (sb : Sub b A) (d : Dis t b) (e : RE c H F ρ σ b) (p : Post c W rel' σ H F A ((o.go ρ).bind g) Q)
    (k : ∀ u x ρ1 H1 F1 a1 b1, Good H1 F1 (Uni t (Uni a1 b1)) → Dis t (Uni a1 b1) → Dis a1 b1 → Tmp c σ H1 F1 o u x a1 → RE c H1 F1 ρ1 σ b1 → Stp H F b H1 F1 (Uni a1 b1) →
      Post c W rel' σ H1 F1 (Uni t (Uni a1 b1)) (g u ρ1) Q → K x H1) : tO c W o σ H K := by
  cases o with
  | nm i =>
    unfold Opd.go at p
    cases q : slot ρ i with
    | none => simp only [q] at p; exact p.elim
    | some v =>
      simp only [q] at p
      obtain ⟨x, b', h1, _, _⟩ := e.look q
      refine ⟨x, h1, k none x ρ H F Emp b ?_ ?_ Dis.empl h1 e ?_ ?_⟩
      · exact gd.sub (Sub.uni st (Sub.uni Sub.emp sb))
      · exact fun p x y => y.elim (fun z => z) (d p x)
      · exact Stp.refl.drop (Sub.uni Sub.emp (Sub.refl _))
      · exact Post.sub p (Sub.uni st (Sub.uni Sub.emp sb))
  | ev f =>
    refine tG.next (rel := relE c) (f := f) (g := fun v ρ1 => g (some v) ρ1) gd st sb d e (by
      unfold Opd.go at p
      cases q : f ρ with
      | ok v ρ1 => simp only [q] at p; exact p
      | er x ρ1 => simp only [q] at p; exact p
      | bad => simp only [q] at p; exact p) fun v x ρ1 H1 F1 a1 b1 g1 d1 d2 r e1 s p1 => ?_
    exact k (some v) x ρ1 H1 F1 a1 b1 g1 d1 d2 ⟨v, rfl, r⟩ e1 s p1
/-- one operand -/
theorem tO.one {o : Opd} {k : PV → Option β} {Q : μ → Hp → Prop} {K : VK} (h : tG c W rel' (op1 o k) σ H Q)
    (fin : ∀ v x y ρ1 H1 F1 A1 b, Good H1 F1 A1 → Sub b A1 → RE c H1 F1 ρ1 σ b → (∃ a, Sub a A1 ∧ R c H1 F1 v x a) → k v = some y → Post c W rel' σ H1 F1 A1 (.ok y ρ1) Q → K x H1) : tO c W o σ H K := by
  obtain ⟨ρ, F, A, gd, e, p⟩ := h
  refine tO.next (t := Emp) gd Sub.emp (Sub.refl _) Dis.empl e p fun u x ρ1 H1 F1 a1 b1 g1 _ d tm e1 s p1 => ?_
  cases q : o.get u ρ1 with
  | none => simp only [q] at p1; exact p1.elim
  | some v =>
    simp only [q] at p1
    cases q2 : k v with
    | none => simp only [Option.bind_some, q2] at p1; exact p1.elim
    | some y =>
      simp only [Option.bind_some, q2] at p1
      obtain ⟨dd, s1, r⟩ := tm.get e1 q
      exact fin v x y ρ1 H1 F1 _ b1 g1 (Sub.r.trans Sub.r) e1 ⟨dd, s1.trans (Sub.uni (Sub.l.trans Sub.r) (Sub.r.trans Sub.r)), r⟩ q2 p1
/-- two operands -/
theorem tO.two {o o' : Opd} {k : PV → PV → Option β} {Q : μ → Hp → Prop} {K : V → V → Hp → Prop} (h : tG c W rel' (op2 o o' k) σ H Q)
    (fin : ∀ v w x x' y ρ1 H1 F1 A1 b, Good H1 F1 A1 → Sub b A1 → RE c H1 F1 ρ1 σ b → (∃ a, Sub a A1 ∧ R c H1 F1 v x a) → (∃ a, Sub a A1 ∧ R c H1 F1 w x' a) → k v w = some y → Post c W rel' σ H1 F1 A1 (.ok y ρ1) Q → K x x' H1) :
    tO c W o σ H (fun x H1 => tO c W o' σ H1 (fun x' H2 => K x x' H2)) := by
  obtain ⟨ρ, F, A, gd, e, p⟩ := h
  refine tO.next (t := Emp) gd Sub.emp (Sub.refl _) Dis.empl e p fun u x ρ1 H1 F1 a1 b1 g1 _ d tm e1 s p1 => ?_
  refine tO.next (t := a1) (b := b1) g1 (Sub.l.trans Sub.r) (Sub.r.trans Sub.r) d e1 p1 fun u' x' ρ2 H2 F2 a2 b2 g2 d1 d2 tm' e2 s2 p2 => ?_
  have tm2 := tm.step (g1.sub (Sub.r.trans Sub.r)) s2 d
  cases q : o.get u ρ2 with
  | none => simp only [q] at p2; exact p2.elim
  | some v =>
    simp only [q, Option.bind_some] at p2
    cases q' : o'.get u' ρ2 with
    | none => simp only [q'] at p2; exact p2.elim
    | some w =>
      simp only [q', Option.bind_some] at p2
      cases q2 : k v w with
      | none => simp only [q2] at p2; exact p2.elim
      | some y =>
        simp only [q2] at p2
        obtain ⟨dd, s1, r⟩ := tm2.get e2 q
        obtain ⟨dd', s1', r'⟩ := tm'.get e2 q'
        exact fin v w x x' y ρ2 H2 F2 _ b2 g2 (Sub.r.trans Sub.r) e2 ⟨dd, s1.trans (Sub.uni Sub.l (Sub.r.trans Sub.r)), r⟩ ⟨dd', s1'.trans Sub.r, r'⟩ q2 p2
end
end Tr
set_option Elab.async false
set_option linter.all false
set_option maxRecDepth 100000
set_option maxHeartbeats 4000000
/-! Tr.E: the expressions. -/
namespace Tr
open PySem PySem.Spec L2
/-- what the rules lean on, of where one stands -/
structure Cok (X : Cx) (c : RC) (k : Nat) : Prop where
  K : X.K = c.K
  hr : Room k X.A
  calm : X.calm = true
  nd : X.N.Nodup
theorem Cok.mono {X : Cx} {c : RC} {j k : Nat} (h : Cok X c k) (l : j ≤ k) : Cok X c j := ⟨h.K, h.hr.mono l, h.calm, h.nd⟩
theorem Cok.blk {X : Cx} {c : RC} {k : Nat} (h : Cok X c k) (s : Shared) (H : Hp) (sc : Scope) (ce : PySem.Env) (fp : List Addr) : Cok (X.blk s H sc ce fp) c k := ⟨h.K, h.hr, h.calm, h.nd⟩
section
variable {c : RC} {W : WX} {σ : L2.St} {H : Hp} {F A b : AS}
/-- a value that is new or of no footprint comes of it -/
def Fin (c : RC) (H : Hp) (F : AS) (z : PV) (Q : VK) : Prop := ∀ x' H' a, Stp H F Emp H' F a → Good H' F a → R c H' F z x' a → Q x' H'
theorem Post.fin {z : PV} {ρ : Env} {Q : VK} (p : Post c W (relE c) σ H F A (.ok z ρ) Q) (g : Good H F A) (sb : Sub b A) (e : RE c H F ρ σ b) : Fin c H F z Q := by
  intro x' H' a s g' r
  have gb := g.sub sb
  have g2 : Good H' F b := gb.kept s g' Dis.empr
  refine p x' H' F a b ⟨fun q o e n => s.keep q o e id, s.live, s.mono, fun q h => .inl h, fun q h => h.elim (fun z => .inl ((s.newA q z).resolve_right id)) fun z => .inr (sb q z)⟩ (g'.uni g2) ?_ r (e.step (g.sub Sub.emp) s Dis.empr)
  intro q h1 h2
  obtain ⟨_, o, eo, _⟩ := gb.own q h2
  rcases s.newA q h1 with z | z
  · rw [z] at eo; cases eo
  · exact z
theorem Fin.now {z : PV} {x : V} {Q : VK} (h : Fin c H F z Q) (g : Good H F Emp) (r : R c H F z x Emp) : Q x H := h x H Emp Stp.refl g r
theorem Stp.new {p : Addr} {o : HO} (hp : H p = none) : Stp H F A (upd H p o) F (Uni A (fun q => q = p)) := by
  refine ⟨fun q u e n => ?_, fun q e => ?_, fun _ h => h, fun _ h => .inl h, fun q h => h.elim .inr fun z => .inl (by rw [z]; exact hp)⟩
  · rw [upd_ne (ne_of_none e hp)]; exact e
  · by_cases z : q = p
    · rw [z]; exact hp
    · rw [upd_ne z] at e; exact e
theorem Stp.newT {p : Addr} {o : HO} (hp : H p = none) : Stp H F A (upd H p o) F A := (Stp.new hp).drop Sub.l
theorem Good.newT {p : Addr} {o : HO} (g : Good H F A) (hp : H p = none) : Good (upd H p o) F A :=
  ⟨fun q h => let ⟨n, u, e, m⟩ := g.own q h; ⟨n, u, by rw [upd_ne (ne_of_none e hp)]; exact e, m⟩, fun q h => let ⟨u, e⟩ := g.fro q h; ⟨u, by rw [upd_ne (ne_of_none e hp)]; exact e⟩⟩
theorem Good.new {p : Addr} {o : HO} (g : Good H F A) (hp : H p = none) (m : Mu o) : Good (upd H p o) F (Uni A (fun q => q = p)) :=
  (g.newT hp).uni ⟨fun q h => by
    subst h
    exact ⟨fun f => (by obtain ⟨u, e⟩ := g.fro q f; rw [hp] at e; cases e), o, upd_same, m⟩, (g.newT hp).fro⟩
theorem Fin.lst {xs : List PV} {vs : List V} {Q : VK} (h : Fin c H F (.lst true xs) Q) (g : Good H F Emp) (r : Rs c H F xs vs Emp) (l : xs.length ≤ big) {p : Addr} (hp : H p = none) : Q (.ref p) (upd H p (.lst vs)) := by
  have g1 : Good (upd H p (.lst vs)) F (fun q => q = p) := (g.new hp (o := .lst vs) trivial).sub Sub.r
  refine h (.ref p) _ (fun q => q = p) ((Stp.new hp).drop Sub.r) g1 ?_
  exact ⟨p, vs, Emp, rfl, l, upd_same, rfl, id, Sub.emp, Rs.step g (Stp.newT (A := Emp) hp) r Dis.empl⟩
theorem Fin.tup {xs : List PV} {vs : List V} {Q : VK} (h : Fin c H F (.tup xs) Q) (g : Good H F Emp) (r : Rs c H F xs vs Emp) (l : xs.length ≤ big) {p : Addr} {o : Obj} (hp : H p = none) (hb : TB o) : Q (.ref p) (upd H p (.frz o (.tup vs))) := by
  refine h (.ref p) _ Emp (Stp.newT hp) (g.newT hp) ?_
  exact ⟨p, vs, rfl, ⟨SqB.of upd_same hb, l⟩, Rs.step g (Stp.newT (A := Emp) hp) r Dis.empl⟩
end
/-! ### constants, names -/
section
variable {X : Cx} {c : RC} {W : WX} {k : Nat} {pos : Pos}
theorem se_of {e : Expr} {v : V} {x : PV} (h : PE X e (tC v)) (r : ∀ H F, R c H F x v Emp) : SE X c W e (eC x) := by
  refine PE.weak h fun σ H Q q => ?_
  obtain ⟨ρ, F, A, g, e, p⟩ := q
  exact p.now g (Sub.refl _) (r H F) e
theorem se_int {i : Int} {j pos} : SE X c W (.Constant (.int i) j pos) (eC (.int i)) := se_of pe_int fun _ _ => rfl
theorem se_bl {b : Bool} {j pos} : SE X c W (.Constant (.bool b) j pos) (eC (.bl b)) := se_of pe_bl fun _ _ => rfl
theorem se_non {j pos} : SE X c W (.Constant .none j pos) (eC .non) := se_of pe_non fun _ _ => rfl
theorem se_str {x : Str} {j pos} (h : sOk x = true) : SE X c W (.Constant (.str x) j pos) (eC (.str x)) := se_of pe_str fun _ _ => ⟨rfl, h⟩
theorem se_nm {i : Nat} {x : Str} (h : PE X (.Name x pos) (tVar i)) : SE X c W (.Name x pos) (eNm i) := by
  refine PE.weak h fun σ H Q q => ?_
  obtain ⟨ρ, F, A, g, e, p⟩ := q
  unfold eNm at p
  cases q : slot ρ i with
  | none => simp only [q] at p; exact p.elim
  | some v =>
    simp only [q] at p
    obtain ⟨x, a, d, h1, h2, h3, h4, h5, h6⟩ := e.take q
    have r : R c H (Uni F a) (frz v) x Emp := R.frz (R.up Sub.l h5) fun _ z => .inr z
    have e2 : RE c H (Uni F a) ((ρ.set i none).set i (some (frz v))) σ (Uni Emp d) := RE.put (RE.up Sub.l h6) h1 r Dis.empl
    rw [List.set_set] at e2
    have sd : Sub (Uni Emp (Uni Emp d)) (fun p => A p ∧ ¬ a p) := fun q z => z.elim False.elim fun z => z.elim False.elim fun z => ⟨h3 q z, fun y => h4 q y z⟩
    exact ⟨x, h1, p x H _ Emp _ ((Stp.freeze h2).drop sd) ((g.freeze h2).sub sd) Dis.empl r e2⟩
theorem se_mv {i : Nat} {x : Str} (h : PE X (.Name x pos) (tVar i)) : SE X c W (.Name x pos) (eMv i) := by
  refine PE.weak h fun σ H Q q => ?_
  obtain ⟨ρ, F, A, g, e, p⟩ := q
  unfold eMv at p
  cases q : slot ρ i with
  | none => simp only [q] at p; exact p.elim
  | some v =>
    simp only [q] at p
    obtain ⟨x, a, d, h1, h2, h3, h4, h5, h6⟩ := e.take q
    exact ⟨x, h1, p.own g h2 h3 h4 h5 h6⟩
end
/-! ### argument lists, displays -/
section
variable {X : Cx} {c : RC} {W : WX} {k : Nat} {pos : Pos}
def relL (c : RC) : Hp → AS → List PV → List V → AS → Prop := fun H F v x a => Rs c H F v x a
def SA (X : Cx) (c : RC) (W : WX) (es : List Expr) (g : AF) : Prop := PA X es (tG c W (relL c) g)
theorem PA.weak {es : List Expr} {t t' : TA} (h : PA X es t) (k : ∀ σ H Q, t' σ H Q → t σ H Q) : PA X es t' := ⟨fun pos pins s σ H Q I q => h.run pos pins s σ H Q I (k σ H Q q)⟩
theorem sa_nil : SA X c W [] aNil := by
  refine PA.weak pa_nil fun σ H Q q => ?_
  obtain ⟨ρ, F, A, g, e, p⟩ := q
  exact p.now g (Sub.refl _) rfl e
theorem sa_cons {e : Expr} {es : List Expr} {f : EF} {g : AF} (h : SE X c W e f) (hs : SA X c W es g) (st : starEach (e :: es) X.env = (false, eval e X.env) :: starEach es X.env := by rfl) : SA X c W (e :: es) (aCons f g) := by
  refine PA.weak (pa_cons h hs st) fun σ H Q q => ?_
  refine tG.bind q fun v x ρ1 H1 F1 a b g1 d r e1 p1 => ?_
  refine tG.next (t := a) g1 Sub.l Sub.r d e1 p1 fun vs xs ρ2 H2 F2 a2 b2 g2 d2 d3 r2 e2 s2 p2 => ?_
  have r' : R c H2 F2 v x a := R.step (g1.sub Sub.r) s2 r d
  refine p2.own (a := Uni a a2) (b := b2) g2 (Sub.uni Sub.l (Sub.l.trans Sub.r)) (Sub.r.trans Sub.r) ?_ ⟨x, xs, a, a2, rfl, Sub.l, Sub.r, fun q y z => d2 q y (.inl z), r', r2⟩ e2
  exact Dis.uni (fun q y z => d2 q y (.inr z)) d3
theorem se_tup {es : List Expr} {x1 pos} {g : AF} (h : SA X c W es g) (hl : es.length ≤ big := by decide) (hn : ∀ ρ vs ρ', g ρ = .ok vs ρ' → vs.length = es.length) : SE X c W (.Tuple es x1 pos) (eTup g) := by
  refine PE.weak (pe_tupB h) fun σ H Q q => ?_
  obtain ⟨ρ, F, A, g0, e, p⟩ := q
  refine ⟨ρ, F, A, g0, e, ?_⟩
  unfold eTup at p
  cases q : g ρ with
  | bad => rw [q] at p; exact p.elim
  | er x ρ1 => rw [q] at p; exact p
  | ok vs ρ1 =>
    rw [q] at p
    intro xs H1 F1 a b s g1 d r e1
    have l : vs.length ≤ big := by rw [hn _ _ _ q]; exact hl
    refine ⟨by rw [Rs.len r]; exact l, fun pp o hp hb => ?_⟩
    have st := s.trans (Stp.newT (o := HO.frz o (HO.tup xs)) hp)
    exact p _ _ F1 a b st (g1.newT hp) d ⟨pp, xs, rfl, ⟨SqB.of upd_same hb, l⟩, Rs.step (g1.sub Sub.emp) (Stp.newT (A := Emp) hp) r Dis.empr⟩ (e1.step (g1.sub Sub.emp) (Stp.newT (A := Emp) hp) Dis.empr)
theorem se_lst {es : List Expr} {pos} {g : AF} (h : SA X c W es g) (hl : es.length ≤ big := by decide) (hn : ∀ ρ vs ρ', g ρ = .ok vs ρ' → vs.length = es.length) : SE X c W (.List es pos) (eLst g) := by
  refine PE.weak (pe_lst h) fun σ H Q q => ?_
  obtain ⟨ρ, F, A, g0, e, p⟩ := q
  refine ⟨ρ, F, A, g0, e, ?_⟩
  unfold eLst at p
  cases q : g ρ with
  | bad => rw [q] at p; exact p.elim
  | er x ρ1 => rw [q] at p; exact p
  | ok vs ρ1 =>
    rw [q] at p
    intro xs H1 F1 a b s g1 d r e1
    have l : vs.length ≤ big := by rw [hn _ _ _ q]; exact hl
    refine ⟨by rw [Rs.len r]; exact l, fun pp hp => ?_⟩
    have st := s.trans (Stp.new (A := Uni a b) (o := HO.lst xs) hp)
    have gn := g1.new hp (o := HO.lst xs) trivial
    have nf : ∀ q, Uni a b q → q ≠ pp := fun q z e2 => by
      obtain ⟨_, o, eo, _⟩ := g1.own q z
      rw [e2, hp] at eo; cases eo
    refine p _ _ F1 (Uni a (fun q => q = pp)) b (st.drop ?_) (gn.sub ?_) ?_ ?_ (e1.step (g1.sub Sub.emp) (Stp.newT (A := Emp) hp) Dis.empr)
    · exact Sub.uni (Sub.uni (Sub.l.trans Sub.l) Sub.r) (Sub.r.trans Sub.l)
    · exact Sub.uni (Sub.uni (Sub.l.trans Sub.l) Sub.r) (Sub.r.trans Sub.l)
    · exact Dis.uni d fun q y z => nf q (.inr z) y
    · exact ⟨pp, xs, a, rfl, l, upd_same, .inr rfl, fun z => nf pp (.inl z) rfl, Sub.l, Rs.step (g1.sub Sub.emp) (Stp.newT (A := Emp) hp) r Dis.empr⟩
theorem aNil_len : ∀ ρ vs ρ', aNil ρ = .ok vs ρ' → vs.length = 0 := by
  intro ρ vs ρ' h
  unfold aNil at h; cases h; rfl
theorem aCons_len {f : EF} {g : AF} {n : Nat} (h : ∀ ρ vs ρ', g ρ = .ok vs ρ' → vs.length = n) : ∀ ρ vs ρ', aCons f g ρ = .ok vs ρ' → vs.length = n + 1 := by
  intro ρ vs ρ' e
  unfold aCons at e
  cases q : f ρ with
  | bad => rw [q] at e; cases e
  | er x y => rw [q] at e; cases e
  | ok v ρ1 =>
    rw [q] at e
    cases q2 : g ρ1 with
    | bad => simp only [Res.bind_ok, q2, Res.bind_bad] at e; cases e
    | er x y => simp only [Res.bind_ok, q2, Res.bind_er] at e; cases e
    | ok ws ρ2 =>
      simp only [Res.bind_ok, q2] at e
      cases e
      rw [List.length_cons, h _ _ _ q2]
end
/-! ### tests -/
section
variable {X : Cx} {c : RC} {W : WX} {k : Nat} {pos : Pos} {a b : Expr} {rest : List Expr} {f g : EF} {t u : TF}
/-- a test's answer as a value, where the rule gives a truth -/
theorem tE_bl {f : EF} {σ : L2.St} {H : Hp} {Q : Bool → Hp → Prop} (q : tTs c W (tE f) σ H Q) : tEx c W f σ H fun x H1 => ∃ d, x = V.bl d ∧ Q d H1 := by
  obtain ⟨ρ, F, A, gd, e, p⟩ := q
  refine ⟨ρ, F, A, gd, e, ?_⟩
  unfold tE at p
  cases q : f ρ with
  | bad => rw [q] at p; exact p.elim
  | er x ρ1 => rw [q] at p; exact p
  | ok v ρ1 =>
    rw [q] at p
    cases v with
    | bl d =>
      intro x H1 F1 a b s g1 dd r e1
      exact ⟨d, r, p d H1 F1 a b s g1 dd rfl e1⟩
    | _ => exact p.elim
theorem eT_bl {t : TF} {σ : L2.St} {H : Hp} {Q : VK} (q : tEx c W (eT t) σ H Q) : tTs c W t σ H fun d H1 => Q (.bl d) H1 := by
  obtain ⟨ρ, F, A, gd, e, p⟩ := q
  refine ⟨ρ, F, A, gd, e, ?_⟩
  unfold eT at p
  cases q : t ρ with
  | bad => rw [q] at p; exact p.elim
  | er x ρ1 => rw [q] at p; exact p
  | ok v ρ1 =>
    rw [q] at p
    intro x H1 F1 a b s g1 dd r e1
    cases (show x = v from r)
    exact p (.bl v) H1 F1 a b s g1 dd rfl e1
/-- a truth as a test (a call, a name) -/
theorem st_val (h : SE X c W a f) (he : ∀ whole, isTrue a X.env whole = (do let v ← whole; standAt a.pos; holding [v] (truthy v)) := by intro _; rfl) : ST X c W a (tE f) :=
  PT.weak (pt_val h he) fun σ H Q q => tE_bl q
theorem st_not (h : ST X c W a t) : ST X c W (.UnaryOp .Not a pos) (tNot t) := by
  refine PT.weak (pt_not h) fun σ H Q q => ?_
  refine tG.bind q fun v x ρ1 H1 F1 a b g1 d r e1 p1 => ?_
  cases (show x = v from r)
  exact p1.now g1 Sub.r rfl e1
def SW (X : Cx) (c : RC) (W : WX) (e : Expr) (t : TF) : Prop := PW X e (tTs c W t)
theorem SW.st (h : SW X c W a t) : ST X c W a t := PW.pt h
theorem sw_and1 (h : ST X c W a t) : SW X c W (.BoolOp .And [a] pos) t := pw_and1 h
theorem sw_or1 (h : ST X c W a t) : SW X c W (.BoolOp .Or [a] pos) t := pw_or1 h
theorem sw_and (h : ST X c W a t) (hs : SW X c W (.BoolOp .And (b :: rest) pos) u) : SW X c W (.BoolOp .And (a :: b :: rest) pos) (tAnd t u) := by
  refine PW.weak (pw_and h hs) fun σ H Q q => ?_
  refine tG.bind q fun v x ρ1 H1 F1 a b g1 d r e1 p1 => ?_
  cases (show x = v from r)
  cases v with
  | true => rw [if_pos rfl]; rw [if_pos rfl] at p1; exact ⟨ρ1, F1, _, g1.sub Sub.r, e1, p1.sub Sub.r⟩
  | false => rw [if_neg Bool.false_ne_true]; rw [if_neg Bool.false_ne_true] at p1; exact p1.now g1 Sub.r rfl e1
theorem sw_or (h : ST X c W a t) (hs : SW X c W (.BoolOp .Or (b :: rest) pos) u) : SW X c W (.BoolOp .Or (a :: b :: rest) pos) (tOr t u) := by
  refine PW.weak (pw_or h hs) fun σ H Q q => ?_
  refine tG.bind q fun v x ρ1 H1 F1 a b g1 d r e1 p1 => ?_
  cases (show x = v from r)
  cases v with
  | true => rw [if_pos rfl]; rw [if_pos rfl] at p1; exact p1.now g1 Sub.r rfl e1
  | false => rw [if_neg Bool.false_ne_true]; rw [if_neg Bool.false_ne_true] at p1; exact ⟨ρ1, F1, _, g1.sub Sub.r, e1, p1.sub Sub.r⟩
/-- and, or, not as values: all but the last are truths -/
theorem se_one {op} (h : SE X c W a f) : SE X c W (.BoolOp op [a] pos) f := pe_one h
def eAnd (t : TF) (g : EF) : EF := fun ρ => (t ρ).bind fun b ρ1 => if b = true then g ρ1 else .ok (.bl false) ρ1
def eOr (t : TF) (g : EF) : EF := fun ρ => (t ρ).bind fun b ρ1 => if b = true then .ok (.bl true) ρ1 else g ρ1
theorem se_and (h : SE X c W a f) (hs : SE X c W (.BoolOp .And (b :: rest) pos) g) : SE X c W (.BoolOp .And (a :: b :: rest) pos) (eAnd (tE f) g) := by
  refine PE.weak (pe_and h hs) fun σ H Q q => ?_
  refine tE_bl (Q := fun d H1 => if d = true then tEx c W g σ H1 Q else Q (.bl false) H1) ?_
  refine tG.bind (rel := relB) q fun v x ρ1 H1 F1 a b g1 d r e1 p1 => ?_
  cases (show x = v from r)
  cases v with
  | true => rw [if_pos rfl]; rw [if_pos rfl] at p1; exact ⟨ρ1, F1, _, g1.sub Sub.r, e1, p1.sub Sub.r⟩
  | false => rw [if_neg Bool.false_ne_true]; rw [if_neg Bool.false_ne_true] at p1; exact p1.now g1 Sub.r rfl e1
theorem se_or (h : SE X c W a f) (hs : SE X c W (.BoolOp .Or (b :: rest) pos) g) : SE X c W (.BoolOp .Or (a :: b :: rest) pos) (eOr (tE f) g) := by
  refine PE.weak (pe_or h hs) fun σ H Q q => ?_
  refine tE_bl (Q := fun d H1 => if d = true then Q (.bl true) H1 else tEx c W g σ H1 Q) ?_
  refine tG.bind (rel := relB) q fun v x ρ1 H1 F1 a b g1 d r e1 p1 => ?_
  cases (show x = v from r)
  cases v with
  | true => rw [if_pos rfl]; rw [if_pos rfl] at p1; exact p1.now g1 Sub.r rfl e1
  | false => rw [if_neg Bool.false_ne_true]; rw [if_neg Bool.false_ne_true] at p1; exact ⟨ρ1, F1, _, g1.sub Sub.r, e1, p1.sub Sub.r⟩
theorem se_not (h : SE X c W a f) : SE X c W (.UnaryOp .Not a pos) (eT (tNot (tE f))) := by
  refine PE.weak (pe_not h) fun σ H Q q => ?_
  refine tE_bl (Q := fun d H1 => Q (.bl (!d)) H1) ?_
  refine tG.bind (rel := relB) (eT_bl q) fun v x ρ1 H1 F1 a b g1 d r e1 p1 => ?_
  cases (show x = v from r)
  exact p1.now g1 Sub.r rfl e1
theorem se_if {d : Expr} (hc : ST X c W d t) (ha : SE X c W a f) (hb : SE X c W b g) : SE X c W (.IfExp d a b pos) (eIf t f g) := by
  refine PE.weak (pe_ifExp hc ha hb) fun σ H Q q => ?_
  refine tG.bind (rel := relB) q fun v x ρ1 H1 F1 a b g1 d r e1 p1 => ?_
  cases (show x = v from r)
  cases v with
  | true => rw [if_pos rfl]; rw [if_pos rfl] at p1; exact ⟨ρ1, F1, _, g1.sub Sub.r, e1, p1.sub Sub.r⟩
  | false => rw [if_neg Bool.false_ne_true]; rw [if_neg Bool.false_ne_true] at p1; exact ⟨ρ1, F1, _, g1.sub Sub.r, e1, p1.sub Sub.r⟩
end
/-! ### operators by their rules -/
section
variable {X : Cx} {c : RC} {W : WX} {pos : Pos} {a b d : Expr} {oa ob od : Opd}
def K1 (c : RC) (r : V → Hp → VK → Prop) (k : PV → Option PV) : Prop := ∀ v z x H F Q A, Good H F Emp → R c H F v x A → k v = some z → Fin c H F z Q → r x H Q
def K2 (c : RC) (r : R2) (k : PV → PV → Option PV) : Prop := ∀ v w z x y H F Q A B, Good H F Emp → R c H F v x A → R c H F w y B → k v w = some z → Fin c H F z Q → r x y H Q
def C1 (c : RC) (r : V → Hp → VK → Prop) (k : PV → Option Bool) : Prop := ∀ v z x H F Q A, Good H F Emp → R c H F v x A → k v = some z → Q (.bl z) H → r x H Q
def C2 (c : RC) (r : R2) (k : PV → PV → Option Bool) : Prop := ∀ v w z x y H F Q A B, Good H F Emp → R c H F v x A → R c H F w y B → k v w = some z → Q (.bl z) H → r x y H Q
theorem two_k {r : R2} {k : PV → PV → Option PV} (hk : K2 c r k) {σ : L2.St} {H : Hp} {Q : VK} (q : tEx c W (eP2 k oa ob) σ H Q) : tO c W oa σ H fun x H1 => tO c W ob σ H1 fun y H2 => r x y H2 Q :=
  tO.two q fun v w x x' y ρ1 H1 F1 A1 bb g sb e ⟨_, _, r1⟩ ⟨_, _, r2⟩ kk p => hk v w y x x' H1 F1 Q _ _ (g.sub Sub.emp) r1 r2 kk (p.fin g sb e)
theorem two_c {r : R2} {k : PV → PV → Option Bool} (hk : C2 c r k) {σ : L2.St} {H : Hp} {Q : Bool → Hp → Prop} (q : tTs c W (tPV2 k oa ob) σ H Q) : tO c W oa σ H fun x H1 => tO c W ob σ H1 fun y H2 => r x y H2 fun z H3 => ∃ d, z = .bl d ∧ Q d H3 :=
  tO.two q fun v w x x' y ρ1 H1 F1 A1 bb g sb e ⟨_, _, r1⟩ ⟨_, _, r2⟩ kk p => hk v w y x x' H1 F1 _ _ _ (g.sub Sub.emp) r1 r2 kk ⟨y, rfl, p.now g sb rfl e⟩
theorem one_k {r : V → Hp → VK → Prop} {k : PV → Option PV} (hk : K1 c r k) {σ : L2.St} {H : Hp} {Q : VK} (q : tEx c W (eP1 k oa) σ H Q) : tO c W oa σ H fun x H1 => r x H1 Q :=
  tO.one q fun v x y ρ1 H1 F1 A1 bb g sb e ⟨_, _, r1⟩ kk p => hk v y x H1 F1 Q _ (g.sub Sub.emp) r1 kk (p.fin g sb e)
theorem one_c {r : V → Hp → VK → Prop} {k : PV → Option Bool} (hk : C1 c r k) {σ : L2.St} {H : Hp} {Q : Bool → Hp → Prop} (q : tTs c W (tPV k oa) σ H Q) : tO c W oa σ H fun x H1 => r x H1 fun z H3 => ∃ d, z = .bl d ∧ Q d H3 :=
  tO.one q fun v x y ρ1 H1 F1 A1 bb g sb e ⟨_, _, r1⟩ kk p => hk v y x H1 F1 _ _ (g.sub Sub.emp) r1 kk ⟨y, rfl, p.now g sb rfl e⟩
theorem se_bin {op : Operator} {r : R2} {k : PV → PV → Option PV} (ho : OpR X (binaryOp op) r) (hk : K2 c r k) (ha : SO X c W a oa) (hb : SO X c W b ob) : SE X c W (.BinOp a op b pos) (eP2 k oa ob) :=
  PE.weak (pe_op ho ha hb) fun σ H Q q => two_k hk q
theorem se_un {op : UnaryOp} {r : V → Hp → VK → Prop} {k : PV → Option PV} (ho : UnR X (unaryOp op) r) (hk : K1 c r k) (ha : SO X c W a oa) : SE X c W (.UnaryOp op a pos) (eP1 k oa) :=
  PE.weak (pe_un ho ha) fun σ H Q q => one_k hk q
theorem st_cmp {op : CmpOp} {r : R2} {k : PV → PV → Option Bool} (ho : OpR X (compareOp op) r) (hk : C2 c r k) (ha : SO X c W a oa) (hb : SO X c W b ob) (hm : behindInMarks op b = false) : ST X c W (.Compare a [op] [b] pos) (tPV2 k oa ob) :=
  PT.weak (pt_cmpR ho ha hb hm) fun σ H Q q => two_c hk q
theorem se_cmp {op : CmpOp} {r : R2} {k : PV → PV → Option Bool} (ho : OpR X (compareOp op) r) (hk : C2 c r k) (ha : SO X c W a oa) (hb : SO X c W b ob) (hm : behindInMarks op b = false) : SE X c W (.Compare a [op] [b] pos) (eT (tPV2 k oa ob)) :=
  PE.weak (pe_cmpR ho ha hb hm) fun σ H Q q => tO.two (eT_bl q) fun v w x x' y ρ1 H1 F1 A1 bb g sb e ⟨_, _, r1⟩ ⟨_, _, r2⟩ kk p => hk v w y x x' H1 F1 _ _ _ (g.sub Sub.emp) r1 r2 kk (p.now g sb rfl e)
/-- a built-in by its name -/
theorem se_call1 {id : String} {x : Str} {p : Pos} {r : List V → Hp → VK → Prop} {k : PV → Option PV} (hc : CallR X (.builtin id) r) (hk : K1 c (fun v => r [v]) k) (hg : Gl X x) (hm : X.mg x = none) (hv : bootBuiltins x = some (.builtin id)) (ha : SO X c W a oa)
    (hn : x ≠ "__name__" := by decide) (hdb : (x == ("__debug__" : Str)) = false := by decide) (st : starEach [a] X.env = (false, eval a X.env) :: starEach [] X.env := by rfl) (he : (backTo pos (starEach [] X.env)).any (·.1) = false := by rfl) :
    SE X c W (.Call (.Name x p) [a] [] pos) (eP1 k oa) :=
  PE.weak (pe_callB hc hg hm hv (pa_cons ha pa_nil st) hn hdb st he) fun σ H Q q => one_k hk q
theorem se_call2 {id : String} {x : Str} {p : Pos} {r : List V → Hp → VK → Prop} {k : PV → PV → Option PV} (hc : CallR X (.builtin id) r) (hk : K2 c (fun v w => r [v, w]) k) (hg : Gl X x) (hm : X.mg x = none) (hv : bootBuiltins x = some (.builtin id)) (ha : SO X c W a oa) (hb : SO X c W b ob)
    (hn : x ≠ "__name__" := by decide) (hdb : (x == ("__debug__" : Str)) = false := by decide) (st : starEach [a, b] X.env = (false, eval a X.env) :: starEach [b] X.env := by rfl) (st2 : starEach [b] X.env = (false, eval b X.env) :: starEach [] X.env := by rfl) (he : (backTo pos (starEach [b] X.env)).any (·.1) = false := by rfl) :
    SE X c W (.Call (.Name x p) [a, b] [] pos) (eP2 k oa ob) :=
  PE.weak (pe_callB hc hg hm hv (pa_cons ha (pa_cons hb pa_nil st2) st) hn hdb st he) fun σ H Q q => two_k hk q
/-- a built-in class by its name -/
theorem se_ty1 {T : String} {x : Str} {p : Pos} {r : List V → Hp → VK → Prop} {k : PV → Option PV} (hc : CallR X (.type T) r) (hk : K1 c (fun v => r [v]) k) (hg : Gl X x) (hm : X.mg x = none) (hv : bootBuiltins x = some (.type T)) (ha : SO X c W a oa)
    (hn : x ≠ "__name__" := by decide) (hdb : (x == ("__debug__" : Str)) = false := by decide) (st : starEach [a] X.env = (false, eval a X.env) :: starEach [] X.env := by rfl) (he : (backTo pos (starEach [] X.env)).any (·.1) = false := by rfl) :
    SE X c W (.Call (.Name x p) [a] [] pos) (eP1 k oa) :=
  PE.weak (pe_callTy hc hg hm hv (pa_cons ha pa_nil st) hn hdb st he) fun σ H Q q => one_k hk q
end
end Tr
set_option Elab.async false
set_option linter.all false
set_option maxRecDepth 100000
set_option maxHeartbeats 4000000
/-! Tr.V: what the operators and built-ins of TrOps are worth over the heap. -/
namespace Tr
open PySem PySem.Spec L2
section
variable {c : RC} {H : Hp} {F A : AS}
theorem R.lstR {w : Bool} {xs : List PV} {x : V} {a : AS} (r : R c H F (.lst w xs) x a) : ∃ p vs b, x = .ref p ∧ Rd H p (.lst vs) ∧ xs.length ≤ big ∧ Sub b a ∧ Rs c H F xs vs b := by
  cases w with
  | true => obtain ⟨p, vs, a', e, l, q, m, n, t, r⟩ := r; exact ⟨p, vs, a', e, .inl q, l, t, r⟩
  | false => obtain ⟨p, vs, e, ⟨q, l⟩, r⟩ := r; exact ⟨p, vs, Emp, e, q.1, l, Sub.emp, r⟩
theorem R.tupR {xs : List PV} {x : V} {a : AS} (r : R c H F (.tup xs) x a) : ∃ p vs, x = .ref p ∧ SqT c.K H p vs ∧ xs.length ≤ big ∧ Rs c H F xs vs a := by
  obtain ⟨p, vs, e, ⟨q, l⟩, r⟩ := r; exact ⟨p, vs, e, q.sq, l, r⟩
theorem R.tupB {xs : List PV} {x : V} {a : AS} (r : R c H F (.tup xs) x a) : ∃ p vs, x = .ref p ∧ SqB c.K H p vs ∧ xs.length ≤ big ∧ Rs c H F xs vs a := by
  obtain ⟨p, vs, e, ⟨q, l⟩, r⟩ := r; exact ⟨p, vs, e, q, l, r⟩
theorem R.dctR {w : Bool} {ks : List Key} {xs : List PV} {x : V} {a : AS} (r : R c H F (.dct w ks xs) x a) : ∃ p vs b, x = .ref p ∧ Rd H p (.dK (ks.zip vs)) ∧ ks.length = xs.length ∧ xs.length ≤ big ∧ Sub b a ∧ Rs c H F xs vs b := by
  cases w with
  | true => obtain ⟨p, vs, a', e, l, q, m, n, t, r⟩ := r; exact ⟨p, vs, a', e, .inl q, l.1, l.2, t, r⟩
  | false => obtain ⟨p, vs, e, l, q, r⟩ := r; exact ⟨p, vs, Emp, e, q.1, l.1, l.2, Sub.emp, r⟩
theorem Rs.at {xs : List PV} {vs : List V} {a : AS} {i : Int} {x : PV} (r : Rs c H F xs vs a) (h : atI xs i = some x) (f : fro x = true) : ∃ v, L2.atI vs i = some v ∧ R c H F x v Emp := by
  unfold atI at h
  cases q : ixN xs.length i with
  | none => rw [q] at h; cases h
  | some j =>
    rw [q] at h
    obtain ⟨v, b, h1, _, h3⟩ := r.get (i := j) h
    refine ⟨v, ?_, R.emp h3 f⟩
    show (L2.ixN vs.length i).bind (fun j => vs[j]?) = some v
    rw [r.len, show L2.ixN xs.length i = some j from q]
    exact h1
theorem Rs.take : ∀ {xs : List PV} {vs : List V} (n : Nat), Rs c H F xs vs Emp → Rs c H F (xs.take n) (vs.take n) Emp
  | xs, vs, n, r => by
    refine Rs.of_emp (by rw [List.length_take, List.length_take, r.len]) fun i x v e1 e2 => ?_
    rw [List.getElem?_take] at e1 e2
    by_cases h : i < n
    · rw [if_pos h] at e1 e2
      obtain ⟨v', b, h1, h2, h3⟩ := r.get e1
      rw [h1] at e2; cases e2
      exact R.mono h3 h2
    · rw [if_neg h] at e1; cases e1
theorem Rs.drop {xs : List PV} {vs : List V} (n : Nat) (r : Rs c H F xs vs Emp) : Rs c H F (xs.drop n) (vs.drop n) Emp := by
  refine Rs.of_emp (by rw [List.length_drop, List.length_drop, r.len]) fun i x v e1 e2 => ?_
  rw [List.getElem?_drop] at e1 e2
  obtain ⟨v', b, h1, h2, h3⟩ := r.get e1
  rw [h1] at e2; cases e2
  exact R.mono h3 h2
theorem Rs.cut {xs : List PV} {vs : List V} {lo hi : Option Int} (r : Rs c H F xs vs Emp) : Rs c H F (cut xs lo hi) (cutV vs lo hi) Emp := by
  unfold Tr.cut cutV
  rw [r.len]
  exact (r.drop _).take _
theorem Rs.rev {xs : List PV} {vs : List V} (r : Rs c H F xs vs Emp) : Rs c H F xs.reverse vs.reverse Emp := by
  refine Rs.of_emp (by rw [List.length_reverse, List.length_reverse, r.len]) fun i x v e1 e2 => ?_
  have hi : i < xs.length := by
    have := (List.getElem?_eq_some_iff.mp e1).1
    rwa [List.length_reverse] at this
  rw [List.getElem?_reverse hi] at e1
  rw [List.getElem?_reverse (by rw [r.len]; exact hi), r.len] at e2
  obtain ⟨v', b, h1, h2, h3⟩ := r.get e1
  rw [h1] at e2; cases e2
  exact R.mono h3 h2
theorem Rs.bls : ∀ {xs : List PV} {vs : List V} {a : AS} {is : List Bool}, Rs c H F xs vs a → Tr.bls xs = some is → vs = is.map V.bl
  | [], vs, _, _, r, h => by cases h; exact r
  | .bl i :: xs, _, _, is, ⟨v, vs', b, d, e, _, _, _, r, rs⟩, h => by
    rw [Tr.bls] at h
    cases q : Tr.bls xs with
    | none => rw [q] at h; cases h
    | some js =>
      rw [q] at h; cases h
      rw [e, show v = V.bl i from r, rs.bls q, List.map_cons]
  | .non :: _, _, _, _, _, h => by cases h
  | .int _ :: _, _, _, _, _, h => by cases h
  | .str _ :: _, _, _, _, _, h => by cases h
  | .tup _ :: _, _, _, _, _, h => by cases h
  | .lst _ _ :: _, _, _, _, _, h => by cases h
  | .dct _ _ _ :: _, _, _, _, _, h => by cases h
  | .ins _ _ _ :: _, _, _, _, _, h => by cases h
  | .con _ :: _, _, _, _, _, h => by cases h
  | .exc _ _ :: _, _, _, _, _, h => by cases h
  | .st _ _ :: _, _, _, _, _, h => by cases h
theorem Rs.strs : ∀ {xs : List PV} {vs : List V} {a : AS} {is : List Str}, Rs c H F xs vs a → Tr.allS xs = some is → vs = is.map V.str ∧ ∀ z ∈ is, sOk z = true
  | [], vs, _, _, r, h => by cases h; exact ⟨r, fun _ z => nomatch z⟩
  | .str i :: xs, _, _, is, ⟨v, vs', b, d, e, _, _, _, r, rs⟩, h => by
    rw [Tr.allS] at h
    cases q : Tr.allS xs with
    | none => rw [q] at h; cases h
    | some js =>
      rw [q] at h; cases h
      obtain ⟨h1, h2⟩ := rs.strs q
      refine ⟨by rw [e, show v = V.str i from r.1, h1, List.map_cons], fun z hz => ?_⟩
      rcases List.mem_cons.mp hz with rfl | hz
      · exact r.2
      · exact h2 z hz
  | .non :: _, _, _, _, _, h => by cases h
  | .bl _ :: _, _, _, _, _, h => by cases h
  | .int _ :: _, _, _, _, _, h => by cases h
  | .tup _ :: _, _, _, _, _, h => by cases h
  | .lst _ _ :: _, _, _, _, _, h => by cases h
  | .dct _ _ _ :: _, _, _, _, _, h => by cases h
  | .ins _ _ _ :: _, _, _, _, _, h => by cases h
  | .con _ :: _, _, _, _, _, h => by cases h
  | .exc _ _ :: _, _, _, _, _, h => by cases h
  | .st _ _ :: _, _, _, _, _, h => by cases h
/-! ### data -/
mutual
def toPD : PV → PyData
  | .non => .none | .bl b => .bool b | .int i => .int i | .str x => .str x
  | .tup xs => .tuple (toPDs xs)
  | .lst _ xs => .list (toPDs xs)
  | .dct .. => .none | .ins .. => .none | .con _ => .none | .exc .. => .none | .st .. => .none
def toPDs : List PV → List PyData
  | [] => []
  | x :: xs => toPD x :: toPDs xs
end
theorem R.dp : ∀ (n : Nat) {v : PV} {x : V} {a : AS}, dat n v = true → R c H F v x a → Dp c.K H x (toPD v) ∧ (toPD v).canLay0 = true ∧ (toPD v).depth ≤ n := by
  have atom : ∀ (n : Nat) {v : PV} {x : V} {a : AS}, dat 0 v = true → R c H F v x a → Dp c.K H x (toPD v) ∧ (toPD v).canLay0 = true ∧ (toPD v).depth ≤ n := by
    intro n v x a d r
    cases v with
    | non => cases (show x = _ from r); exact ⟨.non, rfl, Nat.zero_le _⟩
    | bl b => cases (show x = _ from r); exact ⟨.bl b, rfl, Nat.zero_le _⟩
    | int i => cases (show x = _ from r); exact ⟨.int i, rfl, Nat.zero_le _⟩
    | str z =>
      obtain ⟨rfl, h⟩ := r
      refine ⟨.str z, ?_, Nat.zero_le _⟩
      unfold sOk at h
      rw [Bool.and_eq_true] at h
      exact h.2
    | _ => cases d
  intro n
  induction n with
  | zero => intro v x a d r; exact atom 0 d r
  | succ n ih =>
    have go : ∀ {xs : List PV} {vs : List V} {a : AS}, xs.all (dat n) = true → Rs c H F xs vs a → DpAll c.K H vs (toPDs xs) ∧ PyData.canLayAll0 (toPDs xs) = true ∧ PyData.depthAll (toPDs xs) ≤ n := by
      intro xs
      induction xs with
      | nil => intro vs a _ r; rw [show vs = [] from r]; exact ⟨.nil, rfl, Nat.zero_le _⟩
      | cons y ys ih2 =>
        intro vs a d r
        obtain ⟨v, vs', b, dd, e, _, _, _, r1, rs⟩ := r
        rw [List.all_cons, Bool.and_eq_true] at d
        obtain ⟨h1, h2, h3⟩ := ih d.1 r1
        obtain ⟨k1, k2, k3⟩ := ih2 d.2 rs
        subst e
        refine ⟨.cons h1 k1, ?_, ?_⟩
        · rw [toPDs, PyData.canLayAll0, h2, k2]; rfl
        · rw [toPDs, PyData.depthAll]; exact Nat.max_le.mpr ⟨h3, k3⟩
    intro v x a d r
    cases v with
    | tup xs =>
      obtain ⟨p, vs, rfl, q, l, rs⟩ := r.tupR
      rw [dat] at d
      obtain ⟨h1, h2, h3⟩ := go d rs
      exact ⟨by rw [toPD]; exact .tup q h1, by rw [toPD, PyData.canLay0]; exact h2, by rw [toPD, PyData.depth]; omega⟩
    | lst w xs =>
      obtain ⟨p, vs, b, rfl, q, l, _, rs⟩ := r.lstR
      rw [dat] at d
      obtain ⟨h1, h2, h3⟩ := go d rs
      exact ⟨by rw [toPD]; exact .lst (.inl q) h1, by rw [toPD, PyData.canLay0]; exact h2, by rw [toPD, PyData.depth]; omega⟩
    | non => exact atom _ rfl r
    | bl _ => exact atom _ rfl r
    | int _ => exact atom _ rfl r
    | str _ => exact atom _ rfl r
    | _ => cases d
theorem eqv_pd : ∀ (n : Nat) {v w : PV}, dat n v = true → dat n w = true → PyData.eqv (toPD v) (toPD w) = eqv v w := by
  intro n
  induction n with
  | zero => intro v w d d'; cases v <;> first | (cases d; done) | (cases w <;> first | (cases d'; done) | (simp [toPD, PyData.eqv, eqv, b2i]))
  | succ n ih =>
    have go : ∀ {xs ys : List PV}, xs.all (dat n) = true → ys.all (dat n) = true → PyData.eqvAll (toPDs xs) (toPDs ys) = eqvs xs ys := by
      intro xs
      induction xs with
      | nil => intro ys _ _; cases ys <;> simp [toPDs, PyData.eqvAll, eqvs]
      | cons x xs ih2 =>
        intro ys d d'
        cases ys with
        | nil => simp [toPDs, PyData.eqvAll, eqvs]
        | cons y ys =>
          rw [List.all_cons, Bool.and_eq_true] at d d'
          rw [toPDs, toPDs, PyData.eqvAll, eqvs, ih d.1 d'.1, ih2 d.2 d'.2]
    intro v w d d'
    cases v with
    | tup xs =>
      rw [dat] at d
      cases w with
      | tup ys => rw [dat] at d'; rw [toPD, toPD, PyData.eqv, eqv, go d d']
      | _ => first | (cases d'; done) | (simp [toPD, PyData.eqv, eqv])
    | lst b xs =>
      rw [dat] at d
      cases w with
      | lst b' ys => rw [dat] at d'; rw [toPD, toPD, PyData.eqv, eqv, go d d']
      | _ => first | (cases d'; done) | (simp [toPD, PyData.eqv, eqv])
    | non => cases w <;> first | (cases d'; done) | (simp [toPD, PyData.eqv, eqv, b2i])
    | bl _ => cases w <;> first | (cases d'; done) | (simp [toPD, PyData.eqv, eqv, b2i])
    | int _ => cases w <;> first | (cases d'; done) | (simp [toPD, PyData.eqv, eqv, b2i])
    | str _ => cases w <;> first | (cases d'; done) | (simp [toPD, PyData.eqv, eqv, b2i])
    | _ => cases d
theorem shaped_of {v : PV} {x : V} {a : AS} (d : dat deep v = true) (r : R c H F v x a) : SeqAt.shaped (toPD v) = true := by
  obtain ⟨_, h2, h3⟩ := R.dp deep d r
  unfold SeqAt.shaped
  rw [h2, Bool.true_and]
  exact decide_eq_true (Nat.le_trans h3 (by decide))
theorem k_eq : C2 c (rEqD c.K) cEq := by
  intro v w z x y H F Q A B g r1 r2 k q
  unfold cEq at k
  cases d1 : dat deep v with
  | false => rw [d1, Bool.false_and] at k; cases k
  | true =>
    cases d2 : dat deep w with
    | false => rw [d1, d2] at k; cases k
    | true =>
      rw [d1, d2] at k; cases k
      exact ⟨_, _, (R.dp deep d1 r1).1, (R.dp deep d2 r2).1, shaped_of d1 r1, shaped_of d2 r2, by rw [eqv_pd deep d1 d2]; exact q⟩
theorem k_ne : C2 c (rNeD c.K) cNe := by
  intro v w z x y H F Q A B g r1 r2 k q
  unfold cNe at k
  cases d1 : dat deep v with
  | false => rw [d1, Bool.false_and] at k; cases k
  | true =>
    cases d2 : dat deep w with
    | false => rw [d1, d2] at k; cases k
    | true =>
      rw [d1, d2] at k; cases k
      exact ⟨_, _, (R.dp deep d1 r1).1, (R.dp deep d2 r2).1, shaped_of d1 r1, shaped_of d2 r2, by rw [eqv_pd deep d1 d2]; exact q⟩
/-! ### ints -/
theorem k_sub : K2 c (rI0 fun i j => .int (i - j)) bSub := by
  intro v w z x y H F Q A B g r1 r2 k q
  cases v <;> cases w <;> cases k
  cases (show x = _ from r1); cases (show y = _ from r2)
  exact ⟨_, _, rfl, rfl, q.now g rfl⟩
theorem k_lt : C2 c (rI0 fun i j => .bl (decide (i < j))) cLt := by
  intro v w z x y H F Q A B g r1 r2 k q
  cases v <;> cases w <;> cases k
  cases (show x = _ from r1); cases (show y = _ from r2)
  exact ⟨_, _, rfl, rfl, q⟩
theorem k_le : C2 c (rI0 fun i j => .bl (decide (i ≤ j))) cLe := by
  intro v w z x y H F Q A B g r1 r2 k q
  cases v <;> cases w <;> cases k
  cases (show x = _ from r1); cases (show y = _ from r2)
  exact ⟨_, _, rfl, rfl, q⟩
theorem k_gt : C2 c (rI0 fun i j => .bl (decide (j < i))) cGt := by
  intro v w z x y H F Q A B g r1 r2 k q
  cases v <;> cases w <;> cases k
  cases (show x = _ from r1); cases (show y = _ from r2)
  exact ⟨_, _, rfl, rfl, q⟩
theorem k_div : K2 c (rI CDivW fun i j => .int (i / j)) bDiv := by
  intro v w z x y H F Q A B g r1 r2 k q
  cases v <;> cases w <;> first | (cases k; done) | skip
  cases (show x = _ from r1); cases (show y = _ from r2)
  rename_i i j
  unfold bDiv at k
  by_cases h : divOk j = true
  · simp only [h, if_true] at k; cases k
    unfold divOk at h
    simp only [Bool.and_eq_true, decide_eq_true_eq] at h
    exact ⟨_, _, rfl, rfl, h, q.now g rfl⟩
  · simp only [h] at k; cases k
theorem k_mod : K2 c (rI (fun _ j => 0 < j) fun i j => .int (i % j)) bMod := by
  intro v w z x y H F Q A B g r1 r2 k q
  cases v <;> cases w <;> first | (cases k; done) | skip
  cases (show x = _ from r1); cases (show y = _ from r2)
  rename_i i j
  unfold bMod at k
  by_cases h : 0 < j
  · simp only [h, decide_true, if_true] at k; cases k
    exact ⟨_, _, rfl, rfl, h, q.now g rfl⟩
  · simp only [h] at k; cases k
def CPowW (i j : Int) : Prop := 0 ≤ j ∧ (Builtin.Int.intBits i : Int) * j ≤ 2 ^ 27
theorem op_powW {X : Cx} : OpR X (binaryOp .Pow) (rI CPowW fun i j => .int (i ^ j.toNat)) := opI fun _ _ _ _ _ _ _ hc q => PyProof.Rows.pow_int hc.1 hc.2 q
theorem k_pow : K2 c (rI CPowW fun i j => .int (i ^ j.toNat)) bPow := by
  intro v w z x y H F Q A B g r1 r2 k q
  cases v <;> cases w <;> first | (cases k; done) | skip
  cases (show x = _ from r1); cases (show y = _ from r2)
  rename_i i j
  unfold bPow at k
  by_cases h : powOk i j = true
  · simp only [h, if_true] at k; cases k
    unfold powOk at h
    simp only [Bool.and_eq_true, decide_eq_true_eq] at h
    refine ⟨_, _, rfl, rfl, ⟨h.1, Int.le_trans ?_ h.2⟩, q.now g rfl⟩
    refine Int.mul_le_mul_of_nonneg_right ?_ h.1
    have : Builtin.Int.intBits i ≤ i.natAbs.log2 + 1 := by
      unfold Builtin.Int.intBits
      split <;> omega
    exact_mod_cast this
  · simp only [h] at k; cases k
theorem k_neg : K1 c (rU fun i => .int (-i)) uNeg := by
  intro v z x H F Q A g r k q
  cases v <;> cases k
  cases (show x = _ from r)
  exact ⟨_, rfl, q.now g rfl⟩
end
/-! ### + and * -/
section
variable {X : Cx} {c : RC}
/-- two lists that are read -/
theorem rd_lst {pins : List (Addr × Obj)} {σ : L2.St} {H : Hp} {s : Shared} {p : Addr} {xs : List V} (I : L2.Inv X pins σ H s) (h : Rd H p (.lst xs)) : xs.length ≤ sizeLine ∧ ∃ (its : List Value) (n : Nat), Vals xs its ∧ xs.length = its.length ∧ s.heap.get? p = some { cls := .type "list", data := .seq its.toArray n } := by
  obtain ⟨z, its, n, r, e⟩ := h.ok I.hok
  exact ⟨z, its, n, r, r.length, e⟩
def rCatS : R2 := fun x y H Q => ∃ l b xs zs, x = .ref l ∧ y = .ref b ∧ Rd H l (.lst xs) ∧ Rd H b (.lst zs) ∧ xs.length + zs.length ≤ sizeLine ∧ ∀ p, H p = none → Q (.ref p) (upd H p (.lst (xs ++ zs)))
theorem op_catS : OpR X (binaryOp .Add) rCatS := by
  intro pins s σ H x y v u Q I rx ry h
  obtain ⟨l, b, xs, zs, rfl, rfl, hH, hB, hz, q⟩ := h
  cases rx
  cases ry
  obtain ⟨z, its, n, r, hl, e⟩ := rd_lst I hH
  obtain ⟨z2, its2, n2, r2, hl2, e2⟩ := rd_lst I hB
  refine PySem.P.add_list e e2 ?_ (by rw [List.size_toArray, List.size_toArray]; omega)
  have ea : its.toArray ++ its2.toArray = (its ++ its2).toArray := by simp
  rw [ea]
  exact ⟨.ref _, _, I.lnew (t' := s.toks) (r.append r2) (by rw [List.length_append]; omega), rfl, q _ I.fresh⟩
def rAddAll (K : PySem.W.Frag) : R2 := fun x y H Q => rI0 (fun i j => .int (i + j)) x y H Q ∨ (∃ i j, x = .str i ∧ y = .str j ∧ i.length + j.length ≤ sizeLine ∧ Q (.str (i ++ j)) H) ∨ rCatS x y H Q ∨ rCatB K x y H Q
theorem op_addAll : OpR X (binaryOp .Add) (rAddAll X.K) := op_add.or (op_add_str.or (op_catS.or op_catB))
theorem sOk_append {x y : Str} (hx : sOk x = true) (hy : sOk y = true) (l : x.length + y.length ≤ big) : sOk (x ++ y) = true := by
  unfold sOk at *
  rw [Bool.and_eq_true] at *
  have e : (x ++ y).cps = x.cps ++ y.cps := rfl
  refine ⟨decide_eq_true ?_, ?_⟩
  · show (x ++ y).cps.size ≤ big
    rw [e, Array.size_append]; exact l
  · rw [e, Array.all_append, hx.2, hy.2]; rfl
theorem k_add : K2 c (rAddAll c.K) bAdd := by
  intro v w z x y H F Q A B g r1 r2 k q
  cases v <;> cases w <;> first | (cases k; done) | skip
  · cases (show x = _ from r1); cases (show y = _ from r2); cases k
    exact .inl ⟨_, _, rfl, rfl, q.now g rfl⟩
  · obtain ⟨rfl, s1⟩ := r1
    obtain ⟨rfl, s2⟩ := r2
    simp only [bAdd] at k
    split at k
    · rename_i l
      cases k
      exact .inr (.inl ⟨_, _, rfl, rfl, l, q.now g ⟨rfl, sOk_append s1 s2 l⟩⟩)
    · cases k
  · obtain ⟨p1, vs1, e1, q1, l1, rs1⟩ := r1.tupB
    obtain ⟨p2, vs2, e2, q2, l2, rs2⟩ := r2.tupB
    subst e1 e2
    simp only [bAdd] at k
    split at k
    · rename_i h
      cases k
      simp only [Bool.and_eq_true, decide_eq_true_eq] at h
      have t1 := rs1.emp h.1.1
      have t2 := rs2.emp h.1.2
      have n1 := rs1.len
      have n2 := rs2.len
      refine .inr (.inr (.inr ⟨p1, p2, vs1, vs2, rfl, rfl, q1.sq, q2.sq, by rw [n1, n2]; exact h.2, fun e => ?_, fun _ e => ?_, fun _ _ p o hp hb => ?_⟩))
      · have : (_ : List PV) = [] := List.eq_nil_of_length_eq_zero (by rw [← n1, e]; rfl)
        rw [this, List.nil_append] at q
        exact q.now g ⟨p2, vs2, rfl, ⟨q2, l2⟩, t2⟩
      · have : (_ : List PV) = [] := List.eq_nil_of_length_eq_zero (by rw [← n2, e]; rfl)
        rw [this, List.append_nil] at q
        exact q.now g ⟨p1, vs1, rfl, ⟨q1, l1⟩, t1⟩
      · exact q.tup g ((t1.append t2 Dis.empl).mono fun _ z => z.elim id id) (by rw [List.length_append]; exact h.2) hp hb
    · cases k
  · obtain ⟨p1, vs1, b1, e1, q1, l1, _, rs1⟩ := r1.lstR
    obtain ⟨p2, vs2, b2, e2, q2, l2, _, rs2⟩ := r2.lstR
    subst e1 e2
    simp only [bAdd] at k
    split at k
    · rename_i h
      cases k
      simp only [Bool.and_eq_true, decide_eq_true_eq] at h
      have t1 := rs1.emp h.1.1
      have t2 := rs2.emp h.1.2
      refine .inr (.inr (.inl ⟨p1, p2, vs1, vs2, rfl, rfl, q1, q2, by rw [rs1.len, rs2.len]; exact h.2, fun p hp => ?_⟩))
      exact q.lst g ((t1.append t2 Dis.empl).mono fun _ z => z.elim id id) (by rw [List.length_append]; exact h.2) hp
    · cases k
end
end Tr
set_option Elab.async false
set_option linter.all false
set_option maxRecDepth 100000
set_option maxHeartbeats 4000000
/-! Tr.V2: built-ins, places, slices, kinds. -/
namespace Tr
open PySem PySem.Spec L2
section
variable {X : Cx} {c : RC}
/-! ### text * int -/
theorem foldl_app (l : List (Array Nat)) : ∀ acc : Array Nat, (l.foldl (· ++ ·) acc).toList = acc.toList ++ (l.map (·.toList)).flatten := by
  induction l with
  | nil => intro acc; simp
  | cons x l ih => intro acc; rw [List.foldl_cons, ih]; simp
theorem mulS_eq (x : Str) (k : Int) (h : 0 ≤ k) : Txt.mul x k = ⟨(List.replicate k.toNat x.cps.toList).flatten.toArray⟩ := by
  unfold Txt.mul
  by_cases h1 : k < 1
  · rw [if_pos h1]
    have : k.toNat = 0 := by omega
    rw [this]; rfl
  · rw [if_neg h1]
    by_cases h2 : (k == 1 || x.length == 0) = true
    · rw [if_pos h2]
      rw [Bool.or_eq_true, beq_iff_eq, beq_iff_eq] at h2
      rcases h2 with h2 | h2
      · subst h2; simp
      · have e : x.cps = #[] := Array.eq_empty_of_size_eq_zero h2
        obtain ⟨xc⟩ := x
        simp only at e; subst e
        simp
    · rw [if_neg h2]
      have e := foldl_app (List.replicate k.toNat x.cps) #[]
      rw [List.map_replicate] at e
      simp only [List.nil_append] at e
      congr 1
      rw [← e]
def rMulS : R2 := fun x y H Q => ∃ (z : Str) (k : Int), x = .str z ∧ y = .int k ∧ MulOk z k ∧ Q (.str (Txt.mul z k)) H
theorem op_mulS : OpR X (binaryOp .Mult) rMulS := by
  rintro pins s σ H x y v u Q I rx ry ⟨z, k, rfl, rfl, ok, q⟩
  obtain ⟨t1, rfl⟩ := rx
  obtain ⟨t2, rfl⟩ := ry
  exact PySem.SB.mul ok fun t' tk => ⟨.str (Txt.mul z k), H, I.tok tk, ⟨t', rfl⟩, q⟩
def rMulAll : R2 := fun x y H Q => rI CMulX (fun i j => .int (i * j)) x y H Q ∨ rMulS x y H Q
theorem op_mulAll : OpR X (binaryOp .Mult) rMulAll := op_mulX.or op_mulS
theorem cmulX_of {i j : Int} (h : i.natAbs.log2 + j.natAbs.log2 < 100000000) : CMulX i j := by
  have b : ∀ x : Int, Builtin.Int.intBits x ≤ x.natAbs.log2 + 1 := fun x => by
    unfold Builtin.Int.intBits
    split <;> omega
  have h1 := b i
  have h2 := b j
  unfold CMulX
  omega
theorem k_mul : K2 c rMulAll bMul := by
  intro v w z x y H F Q A B g r1 r2 k q
  cases v <;> cases w <;> first | (cases k; done) | skip
  · cases (show x = _ from r1); cases (show y = _ from r2)
    simp only [bMul] at k
    split at k
    · rename_i h
      cases k
      unfold mulOk at h
      have h2 := of_decide_eq_true h
      exact .inl ⟨_, _, rfl, rfl, cmulX_of h2, q.now g rfl⟩
    · cases k
  · obtain ⟨rfl, s1⟩ := r1
    cases (show y = _ from r2)
    rename_i s i
    simp only [bMul] at k
    split at k
    · rename_i h
      cases k
      simp only [Bool.and_eq_true, decide_eq_true_eq] at h
      have ok : MulOk s i := by
        have hb : s.length * i.toNat ≤ 16777216 := h.2
        refine ⟨?_, fun h1 h2 => ?_, fun h1 h2 => ?_⟩
        · rw [decide_eq_false (by omega), decide_eq_false (by omega)]; rfl
        · intro h3
          have h4 : ((2 : Int) ^ 63 - 1) / i ≥ 16777216 := by
            refine Int.le_ediv_of_mul_le (by omega) ?_
            omega
          have h5 : s.length ≤ 16777216 := Nat.le_trans (Nat.le_mul_of_pos_right _ (by omega)) hb
          omega
        · unfold Builtin.Str.tooLong
          simp only [decide_eq_false_iff_not]
          have e : (sizeLine : Nat) = 16777216 := by decide
          first | omega | (rw [e]; omega)
      refine .inr ⟨s, i, rfl, rfl, ok, ?_⟩
      rw [mulS_eq s i h.1.1]
      refine q.now g ⟨rfl, ?_⟩
      unfold sOk at s1 ⊢
      rw [Bool.and_eq_true] at s1 ⊢
      refine ⟨decide_eq_true ?_, ?_⟩
      · show ((List.replicate i.toNat s.cps.toList).flatten.toArray).size ≤ big
        rw [List.size_toArray, List.length_flatten, List.map_replicate, List.sum_replicate_nat, Array.length_toList, Nat.mul_comm]
        exact h.2
      · rw [← Array.all_toList, List.all_eq_true]
        intro y hy
        have s2 := s1.2
        rw [← Array.all_toList, List.all_eq_true] at s2
        obtain ⟨l, hl, hy⟩ := List.mem_flatten.mp hy
        exact s2 y (by rw [(List.mem_replicate.mp hl).2] at hy; exact hy)
    · cases k
/-! ### None -/
theorem k_isN : C1 c (fun x H Q => Q (.bl (decide (x = .non))) H) cIsN := by
  intro v z x H F Q A g r k q
  cases v with
  | con _ => cases k
  | exc _ _ => cases k
  | st _ _ => cases k
  | non => cases k; cases (show x = _ from r); exact q
  | bl _ => cases k; cases (show x = _ from r); exact q
  | int _ => cases k; cases (show x = _ from r); exact q
  | str _ => cases k; obtain ⟨rfl, _⟩ := r; exact q
  | tup _ => cases k; obtain ⟨p, vs, rfl, _⟩ := r.tupR; exact q
  | lst _ _ => cases k; obtain ⟨p, vs, b, rfl, _⟩ := r.lstR; exact q
  | dct _ _ _ => cases k; obtain ⟨p, vs, b, rfl, _⟩ := r.dctR; exact q
  | ins w _ _ =>
    cases k
    cases w with
    | true => obtain ⟨p, dx, vs, a', rfl, _⟩ := r; exact q
    | false => obtain ⟨p, dx, vs, rfl, _⟩ := r; exact q
variable {W : WX} {a b : Expr} {pos pos' : Pos} {oa ob : Opd} {j : _}
theorem st_isN (ha : SO X c W a oa) : ST X c W (.Compare a [.Is] [.Constant .none j pos'] pos) (tPV cIsN oa) :=
  PT.weak (pt_cmp (pc_isN ha)) fun σ H Q q => one_c (r := fun x H Q => Q (.bl (decide (x = .non))) H) k_isN q
theorem se_isN (ha : SO X c W a oa) : SE X c W (.Compare a [.Is] [.Constant .none j pos'] pos) (eT (tPV cIsN oa)) :=
  PE.weak (pe_cmp (pc_isN ha)) fun σ H Q q => tO.one (eT_bl q) fun v x y ρ1 H1 F1 A1 bb g sb e ⟨_, _, r1⟩ kk p => k_isN v y x H1 F1 _ _ (g.sub Sub.emp) r1 kk (p.now g sb rfl e)
theorem k_notN : C1 c (fun x H Q => Q (.bl (!decide (x = .non))) H) cNotN := by
  intro v z x H F Q A g r k q
  unfold cNotN at k
  cases e : cIsN v with
  | none => rw [e] at k; cases k
  | some d =>
    rw [e] at k; cases k
    exact k_isN v d x H F (fun y H => Q (match y with | .bl d => .bl (!d) | y => y) H) A g r e q
theorem st_notN (ha : SO X c W a oa) : ST X c W (.Compare a [.IsNot] [.Constant .none j pos'] pos) (tPV cNotN oa) :=
  PT.weak (pt_cmp (pc_notN ha)) fun σ H Q q => one_c (r := fun x H Q => Q (.bl (!decide (x = .non))) H) k_notN q
theorem se_notN (ha : SO X c W a oa) : SE X c W (.Compare a [.IsNot] [.Constant .none j pos'] pos) (eT (tPV cNotN oa)) :=
  PE.weak (pe_cmp (pc_notN ha)) fun σ H Q q => tO.one (eT_bl q) fun v x y ρ1 H1 F1 A1 bb g sb e ⟨_, _, r1⟩ kk p => k_notN v y x H1 F1 _ _ (g.sub Sub.emp) r1 kk (p.now g sb rfl e)
/-! ### in -/
/-- data in a list or tuple of data; one sign in a text -/
def rInD (K : PySem.W.Frag) (neg : Bool) : R2 := fun x y H Q =>
  (∃ d ds, Dp K H x d ∧ (Dp K H y (.list ds) ∨ Dp K H y (.tuple ds)) ∧ d.canLay0 = true ∧ PyData.canLayAll0 ds = true ∧ d.depth ≤ 60 ∧ Q (.bl (if neg then !ds.any (fun y => PyData.eqv y d) else ds.any fun y => PyData.eqv y d)) H) ∨
  ∃ (k : Nat) (z : Str), x = .str ⟨#[k]⟩ ∧ y = .str z ∧ Q (.bl (if neg then !decide (k ∈ z.cps.toList) else decide (k ∈ z.cps.toList))) H
theorem op_inD (hu : X.A.units + 64 < cLine) : OpR X (compareOp .In) (rInD X.K false) := by
  intro pins s σ H x y v u Q I rx ry h
  rcases h with ⟨d, ds, hx, hy, c1, c2, dep, q⟩ | ⟨k, z, rfl, rfl, q⟩
  · obtain ⟨as, r1⟩ := Dp.reads I d x v hx rx
    have le : X.A.units + 1 + min (PyData.depthAll ds) d.depth < cLine := by
      have := Nat.min_le_right (PyData.depthAll ds) d.depth
      omega
    rcases hy with hy | hy
    · obtain ⟨bs, r2⟩ := Dp.reads I _ y u hy ry
      exact SeqAt.in_list_reads r2 r1 c2 c1 le ⟨.bl _, H, I, rfl, q⟩
    · obtain ⟨bs, r2⟩ := Dp.reads I _ y u hy ry
      exact SeqAt.in_tuple_reads r2 r1 c2 c1 le ⟨.bl _, H, I, rfl, q⟩
  · exact op_in_sign pins s σ H _ _ v u Q I rx ry ⟨k, z, rfl, rfl, q⟩
theorem op_niD (hu : X.A.units + 64 < cLine) : OpR X (compareOp .NotIn) (rInD X.K true) := by
  intro pins s σ H x y v u Q I rx ry h
  rcases h with ⟨d, ds, hx, hy, c1, c2, dep, q⟩ | ⟨k, z, rfl, rfl, q⟩
  · obtain ⟨as, r1⟩ := Dp.reads I d x v hx rx
    have le : X.A.units + 1 + min (PyData.depthAll ds) d.depth < cLine := by
      have := Nat.min_le_right (PyData.depthAll ds) d.depth
      omega
    rcases hy with hy | hy
    · obtain ⟨bs, r2⟩ := Dp.reads I _ y u hy ry
      exact SeqAt.notIn_list_reads r2 r1 c2 c1 le ⟨.bl _, H, I, rfl, q⟩
    · obtain ⟨bs, r2⟩ := Dp.reads I _ y u hy ry
      exact SeqAt.notIn_tuple_reads r2 r1 c2 c1 le ⟨.bl _, H, I, rfl, q⟩
  · exact op_notIn_sign pins s σ H _ _ v u Q I rx ry ⟨k, z, rfl, rfl, q⟩
theorem any_pd {v : PV} (hv : dat deep v = true) : ∀ {xs : List PV}, xs.all (dat deep) = true → (toPDs xs).any (fun y => PyData.eqv y (toPD v)) = xs.any fun y => eqv y v
  | [], _ => rfl
  | x :: xs, h => by
    rw [List.all_cons, Bool.and_eq_true] at h
    rw [toPDs, List.any_cons, List.any_cons, eqv_pd deep h.1 hv, any_pd hv h.2]
theorem k_in (neg : Bool) : C2 c (rInD c.K neg) (if neg then cNi else cIn) := by
  have main : ∀ (v w : PV) (z : Bool) (x y : V) (H : Hp) (F : AS) (Q : VK) (A B : AS), R c H F v x A → R c H F w y B → cIn v w = some z → Q (.bl (if neg then !z else z)) H → rInD c.K neg x y H Q := by
    intro v w z x y H F Q A B r1 r2 k q
    have seq : ∀ (xs : List PV) (t : PV), dat deep v = true → xs.all (dat deep) = true → some (xs.any fun y => eqv y v) = some z → (t = .tup xs ∨ ∃ b, t = .lst b xs) → R c H F t y B → rInD c.K neg x y H Q := by
      intro xs t d1 d2 kz ht r2
      cases kz
      obtain ⟨h1, h2, h3⟩ := R.dp deep d1 r1
      have d3 : dat (deep + 1) t = true := by
        rcases ht with rfl | ⟨b, rfl⟩
        · rw [dat]; exact d2
        · rw [dat]; exact d2
      obtain ⟨k1, k2, k3⟩ := R.dp (deep + 1) d3 r2
      refine .inl ⟨toPD v, toPDs xs, h1, ?_, h2, ?_, Nat.le_trans h3 (by decide), by rw [any_pd d1 d2]; exact q⟩
      · rcases ht with rfl | ⟨b, rfl⟩
        · exact .inr (by rw [toPD] at k1; exact k1)
        · exact .inl (by rw [toPD] at k1; exact k1)
      · rcases ht with rfl | ⟨b, rfl⟩
        · rw [toPD, PyData.canLay0] at k2; exact k2
        · rw [toPD, PyData.canLay0] at k2; exact k2
    unfold cIn at k
    split at k
    · rename_i b xs
      split at k
      · rename_i hd
        rw [Bool.and_eq_true] at hd
        exact seq xs _ hd.1 hd.2 k (.inr ⟨b, rfl⟩) r2
      · cases k
    · rename_i xs
      split at k
      · rename_i hd
        rw [Bool.and_eq_true] at hd
        exact seq xs _ hd.1 hd.2 k (.inl rfl) r2
      · cases k
    · rename_i s t
      split at k
      · rename_i one
        cases k
        obtain ⟨rfl, _⟩ := r1
        obtain ⟨rfl, _⟩ := r2
        obtain ⟨⟨l⟩⟩ := s
        cases l with
        | nil => cases one
        | cons d l =>
          cases l with
          | nil => exact .inr ⟨d, t, rfl, rfl, q⟩
          | cons _ _ => exact absurd one (by simp [Str.length])
      · cases k
    · cases k
  intro v w z x y H F Q A B g r1 r2 k q
  cases neg with
  | false => exact main v w z x y H F Q A B r1 r2 k q
  | true =>
    have k' : (cIn v w).map (!·) = some z := k
    cases e : cIn v w with
    | none => rw [e] at k'; cases k'
    | some d =>
      rw [e] at k'; cases k'
      exact main v w d x y H F Q A B r1 r2 e q
/-! ### places -/
theorem k_ix : K2 c (rIx c.K) ix := by
  intro v w z x y H F Q A B g r1 r2 k q
  cases v <;> cases w <;> first | (cases k; done) | skip
  · obtain ⟨rfl, s1⟩ := r1
    cases (show y = _ from r2)
    rename_i s i
    simp only [ix] at k
    cases e : atI s.cps.toList i with
    | none => rw [e] at k; cases k
    | some d =>
      rw [e] at k; cases k
      unfold sOk at s1
      rw [Bool.and_eq_true, decide_eq_true_eq] at s1
      refine .inr (.inr ⟨_, _, d, rfl, rfl, s1.1, e, q.now g ⟨rfl, ?_⟩⟩)
      have hm : d ∈ s.cps.toList := by
        unfold atI at e
        cases e2 : ixN s.cps.toList.length i with
        | none => rw [e2] at e; cases e
        | some j => rw [e2] at e; exact List.mem_of_getElem? e
      have s2 := s1.2
      rw [← Array.all_toList, List.all_eq_true] at s2
      unfold sOk
      have h3 := s2 d hm
      rw [Bool.and_eq_true]
      exact ⟨decide_eq_true (by show 1 ≤ 16777216; omega), by simpa using h3⟩
  · obtain ⟨p, vs, rfl, q1, l, rs⟩ := r1.tupR
    cases (show y = _ from r2)
    rename_i xs i
    simp only [ix] at k
    cases e : atI xs i with
    | none => rw [e] at k; cases k
    | some d =>
      rw [e] at k
      simp only [Option.bind_some, onlyFro] at k
      split at k
      · rename_i f
        cases k
        obtain ⟨u, h1, h2⟩ := rs.at e f
        exact .inr (.inl ⟨p, vs, _, u, rfl, rfl, q1, h1, q.now g h2⟩)
      · cases k
  · obtain ⟨p, vs, b, rfl, q1, l, _, rs⟩ := r1.lstR
    cases (show y = _ from r2)
    rename_i xs i _
    simp only [ix] at k
    cases e : atI xs i with
    | none => rw [e] at k; cases k
    | some d =>
      rw [e] at k
      simp only [Option.bind_some, onlyFro] at k
      split at k
      · rename_i f
        cases k
        obtain ⟨u, h1, h2⟩ := rs.at e f
        exact .inl ⟨p, vs, _, u, rfl, rfl, .inl q1, h1, q.now g h2⟩
      · cases k
theorem se_ix (hK : X.K = c.K) (ha : SO X c W a oa) (hb : SO X c W b ob) (hs : PlainIx b) : SE X c W (.Subscript a b pos) (eP2 ix oa ob) :=
  PE.weak (pe_ix ix_seq ha hb hs) fun σ H Q q => two_k (by rw [hK]; exact k_ix) q
end
end Tr
set_option Elab.async false
set_option linter.all false
set_option maxRecDepth 100000
set_option maxHeartbeats 4000000
/-! Tr.V3: slices, built-ins, kinds. -/
namespace Tr
open PySem PySem.Spec L2
section
variable {X : Cx} {c : RC} {W : WX} {a b : Expr} {pos pos' : Pos} {oa ob : Opd}
/-! ### slices -/
def relI : Hp → AS → Option Int → Option Int → AS → Prop := fun _ _ v x _ => x = v
def SB (X : Cx) (c : RC) (W : WX) (e : Option Expr) (b : Option EF) : Prop := PO X e (tG c W relI (goB b))
theorem PO.weak {e : Option Expr} {t t' : TO} (h : PO X e t) (k : ∀ σ H Q, t' σ H Q → t σ H Q) : PO X e t' := ⟨fun pins s σ H Q I q => h.run pins s σ H Q I (k σ H Q q)⟩
theorem sb_none : SB X c W none none := PO.weak po_none fun σ H Q ⟨ρ, F, A, g, e, p⟩ => p.now g (Sub.refl _) rfl e
theorem sb_some {e : Expr} {f : EF} (h : SE X c W e f) : SB X c W (some e) (some f) := by
  refine PO.weak (po_some h) fun σ H Q q => ?_
  obtain ⟨ρ, F, A, g, e, p⟩ := q
  refine ⟨ρ, F, A, g, e, ?_⟩
  unfold goB at p
  cases q : f ρ with
  | bad => simp only [q] at p; exact p.elim
  | er x ρ1 => simp only [q] at p; exact p
  | ok v ρ1 =>
    simp only [q, Res.bind_ok] at p
    cases v with
    | int i =>
      intro x H1 F1 a b s g1 d r e1
      exact ⟨i, r, p (some i) H1 F1 a b s g1 d rfl e1⟩
    | _ => exact p.elim
def rSlAll (K : PySem.W.Frag) : V → Option Int → Option Int → Hp → VK → Prop := fun x lo hi H Q => rSlL K x lo hi H Q ∨ rSlB K x lo hi H Q ∨ rSlS x lo hi H Q
theorem sl_all : SlR X (rSlAll X.K) := sl_list.or (sl_tupB.or sl_str)
theorem cut_whole {α : Type} (xs : List α) (lo hi : Option Int) (h : sIx xs.length 0 lo = 0 ∧ sIx xs.length xs.length hi = xs.length) : cut xs lo hi = xs := by
  unfold cut
  rw [h.1, h.2, List.drop_zero, Nat.sub_zero, List.take_length]
theorem cut_len {α : Type} (xs : List α) (lo hi : Option Int) : (cut xs lo hi).length ≤ xs.length := by
  unfold cut
  rw [List.length_take, List.length_drop]
  omega
theorem cut_mem {α : Type} {xs : List α} {lo hi : Option Int} {y : α} (h : y ∈ cut xs lo hi) : y ∈ xs := List.mem_of_mem_drop (List.mem_of_mem_take h)
theorem k_sl {v z : PV} {lo hi : Option Int} {x : V} {H : Hp} {F A : AS} {Q : VK} (g : Good H F Emp) (r : R c H F v x A) (k : sl v lo hi = some z) (q : Fin c H F z Q) : rSlAll c.K x lo hi H Q := by
  cases v <;> first | (cases k; done) | skip
  · obtain ⟨rfl, s1⟩ := r
    cases k
    unfold sOk at s1
    rw [Bool.and_eq_true, decide_eq_true_eq] at s1
    refine .inr (.inr ⟨_, rfl, s1.1, q.now g ⟨rfl, ?_⟩⟩)
    rename_i s
    unfold sOk
    rw [Bool.and_eq_true]
    refine ⟨decide_eq_true ?_, ?_⟩
    · show ((cut s.cps.toList lo hi).toArray).size ≤ big
      rw [List.size_toArray]
      exact Nat.le_trans (cut_len _ _ _) (by rw [Array.length_toList]; exact s1.1)
    · have s2 := s1.2
      rw [← Array.all_toList, List.all_eq_true] at s2 ⊢
      exact fun y hy => s2 y (cut_mem (by simpa using hy))
  · obtain ⟨p, vs, rfl, q1, l, rs⟩ := r.tupB
    simp only [sl] at k
    split at k
    · rename_i xs f
      cases k
      have t := rs.emp f
      refine .inr (.inl ⟨p, vs, rfl, q1.sq, fun h => ?_, fun h pp o hp hb => ?_⟩)
      · rw [rs.len] at h
        rw [cut_whole _ _ _ h] at q
        exact q.now g ⟨p, vs, rfl, ⟨q1, l⟩, t⟩
      · exact q.tup g t.cut (Nat.le_trans (cut_len _ _ _) l) hp hb
    · cases k
  · obtain ⟨p, vs, b, rfl, q1, l, _, rs⟩ := r.lstR
    simp only [sl] at k
    split at k
    · rename_i f
      cases k
      exact .inl ⟨p, vs, rfl, .inl q1, fun pp hp => q.lst g (rs.emp f).cut (Nat.le_trans (cut_len _ _ _) l) hp⟩
    · cases k
theorem se_sl {lo hi : Option Expr} {p2 : Pos} {fl fh : Option EF} (hK : X.K = c.K) (ha : SO X c W a oa) (hl : SB X c W lo fl) (hh : SB X c W hi fh) : SE X c W (.Subscript a (.Slice lo hi none p2) pos) (eSl oa fl fh) := by
  refine PE.weak (pe_slice sl_all ha hl hh) fun σ H Q q => ?_
  obtain ⟨ρ, F, A, gd, e, p⟩ := q
  refine tO.next (t := Emp) gd Sub.emp (Sub.refl _) Dis.empl e p fun u x ρ1 H1 F1 a1 b1 g1 _ d tm e1 s p1 => ?_
  refine tG.next (t := a1) (b := b1) g1 (Sub.l.trans Sub.r) (Sub.r.trans Sub.r) d e1 p1 fun i i' ρ2 H2 F2 a2 b2 g2 d1 d2 ri e2 s2 p2 => ?_
  have tm2 := tm.step (g1.sub (Sub.r.trans Sub.r)) s2 d
  refine tG.next (t := a1) (b := b2) g2 Sub.l (Sub.r.trans Sub.r) (fun q y z => d1 q y (.inr z)) e2 p2 fun j j' ρ3 H3 F3 a3 b3 g3 d3 d4 rj e3 s3 p3 => ?_
  have tm3 := tm2.step (g2.sub (Sub.r.trans Sub.r)) s3 (fun q y z => d1 q y (.inr z))
  cases (show i' = i from ri)
  cases (show j' = j from rj)
  cases q : oa.get u ρ3 with
  | none => simp only [q] at p3; exact p3.elim
  | some v =>
    simp only [q, Option.bind_some] at p3
    cases q2 : sl v i j with
    | none => simp only [q2] at p3; exact p3.elim
    | some z =>
      simp only [q2] at p3
      obtain ⟨dd, sd, r⟩ := tm3.get e3 q
      rw [hK]
      exact k_sl (g3.sub Sub.emp) r q2 (p3.fin g3 (Sub.r.trans Sub.r) e3)
/-! ### built-ins -/
def rLenAll (K : PySem.W.Frag) : List V → Hp → VK → Prop := fun xs H Q => (∃ x n, xs = [x] ∧ LenV K x H n ∧ Q (.int n) H) ∨ ∃ a kvs, xs = [V.ref a] ∧ Rd H a (.dK kvs) ∧ Q (.int kvs.length) H
theorem call_lenRd : CallR X (.builtin "len") (fun xs H Q => ∃ a kvs, xs = [V.ref a] ∧ Rd H a (.dK kvs) ∧ Q (.int kvs.length) H) := by
  rintro pins s σ H xs us Q I r ⟨d, kvs, rfl, hd, q⟩
  rw [Vals.ref1 r]
  exact d_len I hd fun t s' J => ⟨.int kvs.length, H, J, ⟨t, rfl⟩, q⟩
theorem call_lenAll : CallR X (.builtin "len") (rLenAll X.K) := call_len.or call_lenRd
theorem k_len : K1 c (fun v => rLenAll c.K [v]) fLen := by
  intro v z x H F Q A g r k q
  cases v <;> first | (cases k; done) | skip
  · cases k
    obtain ⟨rfl, s1⟩ := r
    unfold sOk at s1
    rw [Bool.and_eq_true, decide_eq_true_eq] at s1
    exact .inl ⟨_, _, rfl, ⟨s1.1, rfl⟩, q.now g rfl⟩
  · cases k
    obtain ⟨p, vs, rfl, q1, l, rs⟩ := r.tupR
    exact .inl ⟨_, _, rfl, .inr ⟨_, q1, rfl⟩, q.now g (by rw [rs.len]; rfl)⟩
  · cases k
    obtain ⟨p, vs, b, rfl, q1, l, _, rs⟩ := r.lstR
    exact .inl ⟨_, _, rfl, .inl ⟨_, .inl q1, rfl⟩, q.now g (by rw [rs.len]; rfl)⟩
  · cases k
    obtain ⟨p, vs, b, rfl, q1, l, l2, _, rs⟩ := r.dctR
    exact .inr ⟨_, _, rfl, q1, q.now g (by rw [List.length_zip, rs.len, l, Nat.min_self]; rfl)⟩
theorem k_abs : K1 c (fun v => (fun xs H Q => ∃ i, xs = [.int i] ∧ Q (.int (if i < 0 then -i else i)) H : List V → Hp → VK → Prop) [v]) fAbs := by
  intro v z x H F Q A g r k q
  cases v <;> cases k
  cases (show x = _ from r)
  exact ⟨_, rfl, q.now g rfl⟩
theorem k_int : K1 c (fun v => (fun xs H Q => (∃ i, xs = [.int i] ∧ Q (.int i) H) ∨ ∃ k, xs = [.bl k] ∧ Q (.int (if k then 1 else 0)) H : List V → Hp → VK → Prop) [v]) fInt := by
  intro v z x H F Q A g r k q
  cases v <;> cases k
  · cases (show x = _ from r)
    rename_i b
    exact .inr ⟨b, rfl, q.now g (by cases b <;> rfl)⟩
  · cases (show x = _ from r)
    exact .inl ⟨_, rfl, q.now g rfl⟩
theorem k_max2 : K2 c (fun v w => (fun xs H Q => ∃ i j, xs = [.int i, .int j] ∧ Q (.int (if j > i then j else i)) H : List V → Hp → VK → Prop) [v, w]) fMax2 := by
  intro v w z x y H F Q A B g r1 r2 k q
  cases v <;> cases w <;> cases k
  cases (show x = _ from r1); cases (show y = _ from r2)
  exact ⟨_, _, rfl, q.now g rfl⟩
theorem k_min2 : K2 c (fun v w => (fun xs H Q => ∃ i j, xs = [.int i, .int j] ∧ Q (.int (if j < i then j else i)) H : List V → Hp → VK → Prop) [v, w]) fMin2 := by
  intro v w z x y H F Q A B g r1 r2 k q
  cases v <;> cases w <;> cases k
  cases (show x = _ from r1); cases (show y = _ from r2)
  exact ⟨_, _, rfl, q.now g rfl⟩
theorem k_list : K1 c (fun v => (fun xs H Q => ∃ p ys, xs = [.ref p] ∧ (SqL c.K H p ys ∨ SqT c.K H p ys) ∧ ∀ l, H l = none → Q (.ref l) (upd H l (.lst ys)) : List V → Hp → VK → Prop) [v]) fList := by
  intro v z x H F Q A g r k q
  cases v <;> first | (cases k; done) | skip
  · obtain ⟨p, vs, rfl, q1, l, rs⟩ := r.tupR
    simp only [fList] at k
    split at k
    · rename_i f
      cases k
      exact ⟨p, vs, rfl, .inr q1, fun pp hp => q.lst g (rs.emp f) l hp⟩
    · cases k
  · obtain ⟨p, vs, b, rfl, q1, l, _, rs⟩ := r.lstR
    simp only [fList] at k
    split at k
    · rename_i f
      cases k
      exact ⟨p, vs, rfl, .inl (.inl q1), fun pp hp => q.lst g (rs.emp f) l hp⟩
    · cases k
theorem k_tuple : K1 c (fun v => (fun xs H Q => ∃ p ys, xs = [.ref p] ∧ ((SqL c.K H p ys ∧ ∀ l o, H l = none → TB o → Q (.ref l) (upd H l (.frz o (.tup ys)))) ∨ (SqT c.K H p ys ∧ Q (.ref p) H)) : List V → Hp → VK → Prop) [v]) fTuple := by
  intro v z x H F Q A g r k q
  cases v <;> first | (cases k; done) | skip
  · obtain ⟨p, vs, rfl, q1, l, rs⟩ := r.tupB
    simp only [fTuple] at k
    split at k
    · rename_i f
      cases k
      exact ⟨p, vs, rfl, .inr ⟨q1.sq, q.now g ⟨p, vs, rfl, ⟨q1, l⟩, rs.emp f⟩⟩⟩
    · cases k
  · obtain ⟨p, vs, b, rfl, q1, l, _, rs⟩ := r.lstR
    simp only [fTuple] at k
    split at k
    · rename_i f
      cases k
      exact ⟨p, vs, rfl, .inl ⟨.inl q1, fun pp o hp hb => q.tup g (rs.emp f) l hp hb⟩⟩
    · cases k
theorem k_all : K1 c (fun v => rAll c.K [v]) fAll := by
  intro v z x H F Q A g r k q
  cases v <;> first | (cases k; done) | skip
  obtain ⟨p, vs, b, rfl, q1, l, _, rs⟩ := r.lstR
  simp only [fAll] at k
  rename_i w xs _
  cases e : bls xs with
  | none => rw [e] at k; cases k
  | some bs =>
    rw [e] at k; cases k
    exact ⟨p, bs, rfl, by rw [← rs.bls e]; exact .inl q1, q.now g rfl⟩
/-- sep.join(xs) -/
def rJoinX (K : PySem.W.Frag) : V → List V → Hp → VK → Prop := fun x xs H Q => ∃ a p, ∃ ys : List Str, x = .str a ∧ xs = [.ref p] ∧ (SqL K H p (ys.map V.str) ∨ SqT K H p (ys.map V.str)) ∧
      (ys.map (·.length)).sum + ys.length * a.length ≤ 16777216 ∧ Q (.str (Txt.join a ys)) H
theorem join_ok (a : Str) (ha : sOk a = true) : ∀ ys : List Str, (∀ z ∈ ys, sOk z = true) → ∀ y ∈ (Str.join a ys).cps.toList, y < 0x110000 := by
  have ok : ∀ z : Str, sOk z = true → ∀ y ∈ z.cps.toList, y < 0x110000 := by
    intro z h y hy
    unfold sOk at h
    rw [Bool.and_eq_true] at h
    have s2 := h.2
    rw [← Array.all_toList, List.all_eq_true] at s2
    simpa using s2 y hy
  intro ys
  induction ys with
  | nil => intro _ y hy; cases hy
  | cons x xs ih =>
    intro h y hy
    cases xs with
    | nil => exact ok x (h x List.mem_cons_self) y hy
    | cons x2 xs =>
      have e : (Str.join a (x :: x2 :: xs)).cps.toList = x.cps.toList ++ a.cps.toList ++ (Str.join a (x2 :: xs)).cps.toList := by
        show ((x ++ a) ++ Str.join a (x2 :: xs)).cps.toList = _
        show ((x.cps ++ a.cps) ++ (Str.join a (x2 :: xs)).cps).toList = _
        simp
      rw [e] at hy
      rcases List.mem_append.mp hy with hy | hy
      · rcases List.mem_append.mp hy with hy | hy
        · exact ok x (h x List.mem_cons_self) y hy
        · exact ok a ha y hy
      · exact ih (fun z hz => h z (List.mem_cons_of_mem _ hz)) y hy
theorem k_join {v w z : PV} {x y : V} {H : Hp} {F A B : AS} {Q : VK} (g : Good H F Emp) (r1 : R c H F v x A) (r2 : R c H F w y B) (k : fJoin v w = some z) (q : Fin c H F z Q) : (∃ z, x = .str z) ∧ rJoinX c.K x [y] H Q := by
  have main : ∀ (a : Str) (xs : List PV) (ys : List Str) (p : Addr) (vs : List V) (B : AS), sOk a = true → (SqL c.K H p vs ∨ SqT c.K H p vs) → Rs c H F xs vs B → Tr.allS xs = some ys → (if (ys.map (·.length)).sum + ys.length * a.length ≤ big then some (PV.str (Str.join a ys)) else none) = some z → rJoinX c.K (.str a) [.ref p] H Q := by
    intro a xs ys p vs B ha hp rs e k
    split at k
    · rename_i hz
      cases k
      obtain ⟨h1, h2⟩ := rs.strs e
      rw [h1] at hp
      refine ⟨a, p, ys, rfl, rfl, hp, hz, ?_⟩
      have ej : Txt.join a ys = Str.join a ys := StrLaws.glued_eq_join a ys
      rw [ej]
      refine q.now g ⟨rfl, ?_⟩
      unfold sOk
      rw [Bool.and_eq_true]
      refine ⟨decide_eq_true (Nat.le_trans (StrLaws.join_length_le a ys) hz), ?_⟩
      rw [← Array.all_toList, List.all_eq_true]
      exact fun y hy => by simpa using join_ok a ha ys h2 y hy
    · cases k
  cases v <;> first | (cases k; done) | skip
  cases w <;> first | (cases k; done) | skip
  · obtain ⟨rfl, s1⟩ := r1
    obtain ⟨p, vs, rfl, q1, l, rs⟩ := r2.tupR
    refine ⟨⟨_, rfl⟩, ?_⟩
    simp only [fJoin] at k
    rename_i a xs
    cases e : Tr.allS xs with
    | none => rw [e] at k; cases k
    | some ys => rw [e, Option.bind_some] at k; exact main a xs ys p vs _ s1 (.inr q1) rs e k
  · obtain ⟨rfl, s1⟩ := r1
    obtain ⟨p, vs, b, rfl, q1, l, _, rs⟩ := r2.lstR
    refine ⟨⟨_, rfl⟩, ?_⟩
    simp only [fJoin] at k
    rename_i a w xs _
    cases e : Tr.allS xs with
    | none => rw [e] at k; cases k
    | some ys => rw [e, Option.bind_some] at k; exact main a xs ys p vs _ s1 (.inl (.inl q1)) rs e k
theorem se_join {z : Str} {j : _} {ap apos : Pos} (hK : X.K = c.K) (hz : sOk z = true) (hb : SO X c W b ob) (hs : starEach [b] X.env = [(false, eval b X.env)] := by rfl)
    (hbase : attributeBase (.Constant (.str z) j ap) "join" X.env (eval (.Constant (.str z) j ap) X.env) = eval (.Constant (.str z) j ap) X.env := by rfl) (hline : (apos.endLine == pos.line) = true := by rfl) :
    SE X c W (.Call (.Attribute (.Constant (.str z) j ap) "join" apos) [b] [] pos) (eP1 (fJoin (.str z)) ob) := by
  refine PE.weak (pe_join pe_str hb hs hbase hline) fun σ H Q q => ?_
  refine ⟨⟨_, rfl⟩, ?_⟩
  refine tO.one q fun v x y ρ1 H1 F1 A1 bb g sb e ⟨_, _, r1⟩ kk p => ?_
  have := (k_join (v := .str z) (x := .str z) (A := Emp) (g.sub Sub.emp) ⟨rfl, hz⟩ r1 kk (p.fin g sb e)).2
  unfold rJoinX at this
  rw [hK]
  exact this
/-! ### kinds -/
def tyN : Ty → String
  | .int => "int" | .bool => "bool" | .str => "str" | .list => "list" | .tuple => "tuple" | .dict => "dict"
def tyP : PV → Option String
  | .non => some "NoneType" | .bl _ => some "bool" | .int _ => some "int" | .str _ => some "str" | .tup _ => some "tuple" | .lst .. => some "list" | .dct .. => some "dict"
  | _ => none
theorem tyx_of {v : PV} {x : V} {H : Hp} {F A : AS} {n : String} (r : R c H F v x A) (h : tyP v = some n) : TyX c.K H x (.type n) := by
  cases v with
  | non => cases h; cases (show x = _ from r); exact .base .non
  | bl b => cases h; cases (show x = _ from r); exact .base (.bl b)
  | int i => cases h; cases (show x = _ from r); exact .base (.int i)
  | str z => cases h; obtain ⟨rfl, _⟩ := r; exact .base (.str z)
  | tup xs =>
    cases h
    obtain ⟨p, vs, rfl, q1, l, rs⟩ := r.tupR
    rcases q1 with (q1 | ⟨o, q1⟩) | ⟨o, its, n, q1, q2, _⟩
    · exact .base (.tup q1)
    · exact .fTuple q1
    · exact .kTuple q1 q2
  | lst w xs =>
    cases h
    obtain ⟨p, vs, b, rfl, q1, l, _, rs⟩ := r.lstR
    rcases q1 with q1 | ⟨o, q1⟩
    · exact .base (.lst q1)
    · exact .base (.frz q1)
  | dct w ks xs =>
    cases h
    obtain ⟨p, vs, b, rfl, q1, l, l2, _, rs⟩ := r.dctR
    rcases q1 with q1 | ⟨o, q1⟩
    · exact .base (.dK q1)
    · exact .fDict q1
  | ins _ _ _ => cases h
  | con _ => cases h
  | exc _ _ => cases h
  | st _ _ => cases h
/-- isinstance(x, T) -/
def rIsaX (K : PySem.W.Frag) (T : String) : V → Hp → VK → Prop := fun x H Q => ∃ (t : Value) (b : Bool), TyX K H x t ∧ PySem.W.kitOne K t (.type T) = some b ∧ Q (.bl b) H
theorem k_isa (T : Ty) : C1 c (rIsaX c.K (tyN T)) (isA T) := by
  intro v z x H F Q A g r k q
  cases e : tyP v with
  | none => cases v <;> first | (cases e; done) | (cases T <;> cases k)
  | some n =>
    refine ⟨.type n, z, tyx_of r e, kit_ty ?_, q⟩
    cases v <;> cases e <;> cases T <;> cases k <;> decide +kernel
variable {p p2 : Pos} {xT : Str} {T : Ty}
theorem se_isa (hK : X.K = c.K) (ha : SO X c W a oa) (hT : PE X (.Name xT p2) (tC (.ty (tyN T)))) (hg : Gl X "isinstance") (hm : X.mg "isinstance" = none)
    (st : starEach [a, .Name xT p2] X.env = (false, eval a X.env) :: starEach [.Name xT p2] X.env := by rfl) (st2 : starEach [.Name xT p2] X.env = (false, eval (.Name xT p2) X.env) :: starEach [] X.env := by rfl) (he : (backTo pos (starEach [.Name xT p2] X.env)).any (·.1) = false := by rfl) :
    SE X c W (.Call (.Name "isinstance" p) [a, .Name xT p2] [] pos) (eT (tPV (isA T) oa)) := by
  refine PE.weak (pe_callB call_isi hg hm (by decide +kernel) (pa_cons ha (pa_cons hT pa_nil st2) st) (by decide) (by decide) st he) fun σ H Q q => ?_
  refine tO.one (eT_bl q) fun v x y ρ1 H1 F1 A1 bb g sb e ⟨_, _, r1⟩ kk pp => ?_
  obtain ⟨t, b, h1, h2, h3⟩ := k_isa (c := c) T v y x H1 F1 Q _ (g.sub Sub.emp) r1 kk (pp.now g sb rfl e)
  exact ⟨x, _, t, _, b, rfl, .ty _, by rw [hK]; exact h1, by rw [hK]; exact h2, h3⟩
end
end Tr
set_option Elab.async false
set_option linter.all false
set_option maxRecDepth 100000
set_option maxHeartbeats 4000000
/-! Tr.G: a def's promise where no repr is under way (FnG): how it is shown, called, and met by the row's head. -/
namespace Tr
open PySem PySem.Spec PyProof.Rows L2
structure FnG (P : Program) (w : World) (K : PySem.W.Frag) (mg : Str → Option Value) (base : Heap) (CX : CXT) (k : Nat) (f : Addr) (fd : FuncData) (ps : List Str) (sp : Sp) : Prop where
  len : ∀ vs H Q E, sp vs H Q E → vs.length = ps.length
  run : ∀ (A : Around), A.guards = some [] → ∀ (outer : List PySem.Env) (s : Shared) (H : Hp) (args : Args) (us : List Value) (vs : List V) (Q : VK) (E : XK), Room k A → Env0 P w K mg base A outer s H → BindsTo s fd args (ps.zip us) → Vals vs us → sp vs H Q E →
    codeAny (model P w) A (.call (.ref f) args) (CR CX outer P w H s Q E) s
section
variable {P : Program} {w : World} {K : PySem.W.Frag} {mg : Str → Option Value} {base : Heap} {CX : CXT}
theorem FnG.of {k : Nat} {f : Addr} {fd : FuncData} {ps : List Str} {sp : Sp} (F : FnOk P w K mg base CX k f fd ps sp) : FnG P w K mg base CX k f fd ps sp := ⟨F.len, fun A _ => F.run A⟩
/-- a def of the text -/
theorem Fun.okG {x qual : Str} {st : Stmt} {f : Addr} {fd : FuncData} {N ps : List Str} {k : Nat} {sp : Sp} (F : Fun K x qual st f fd) (S : FnScope N ps (defScope st)) (len : ∀ vs H Q E, sp vs H Q E → vs.length = ps.length)
    (hb : ∀ (cdv : Value) (A : Around) (outer : List PySem.Env) (s : Shared) (H : Hp) (vs : List V) (Q : VK) (E : XK), A.guards = some [] → Room k (A.deeper (envOfC qual (defScope st) s.heap.objs.size f cdv)) → sp vs H Q E →
      ∃ t, PSs (cxOf (L2.CX P w) P w K mg base N qual (defScope st) f cdv A outer s H E) (defBody st) t ∧ t { nx := fun _ H' => Q .non H', rt := Q } (L2.start N vs) H) : FnG P w K mg base (L2.CX P w) (k + 1) f fd ps sp := by
  obtain ⟨oc, od, kV, doc, pm, an, cdv, ct, osl, rfl, lk, hcd⟩ := F.ex
  refine ⟨len, fun A gA outer s H args us vs Q E room env bind rel want => ?_⟩
  have n := len _ _ _ _ want
  have inK : K.In s.heap := env.mod.kin.keeps fun b o e => (env.bs b o e).1
  have nolim : s.heap.NoLimit := env.mod.nolimit.keeps fun b o e => (env.bs b o e).1
  have kinds : ∀ y ∈ ps.zip us, (defScope st).names.lookup y.1 = some .local ∨ ((defScope st).names.lookup y.1 = some .cell ∧ ((cellsFrom (s.heap.objs.size + 1) (defScope st).names []).lookup y.1).isSome = true) := fun y hy => (S.par y.1 (List.of_mem_zip (a := y.1) (b := y.2) hy).1).imp id fun q => ⟨q, PySem.W.cellsFrom_some _ _ _ (.inl q)⟩
  refine codeAny_call_function room.depth (inK _ _ lk) rfl S.co S.gen rfl (PySem.W.codeRec_of inK hcd) (bind _ _ _ _ (wpAny_newFunctionEnv_cells S.kind kinds fun env' e s1 x => ?_))
  subst e
  obtain ⟨t, ht, q⟩ := hb cdv A outer s H vs Q E gA (room.deeper _) want
  refine ⟨nolim.keeps x.toInCall.keep, codeAny_func (wpAny_mono (ht.run [] s1 (L2.start N vs) H _ (inv_start S room.hd env n rel x) q) (fun fl s' a => ?_) fun e s' a => a)⟩
  cases fl with
  | ret u => obtain ⟨v, σ', H', J, rv, q⟩ := a; exact ⟨v, H', J.os, J.bare, J.base, J.hok, rv, q⟩
  | next => obtain ⟨σ', H', J, q⟩ := a; exact ⟨V.non, H', J.os, J.bare, J.base, J.hok, rfl, q⟩
  | brk => obtain ⟨_, _, _, q⟩ := a; exact False.elim q
  | cont => obtain ⟨_, _, _, q⟩ := a; exact False.elim q
end
section
variable {X : Cx} {k : Nat} {f : Addr} {fd : FuncData} {ps : List Str} {sp : Sp} {dvs : List V} {ds : List Value} {E : L2.St → XK} {x : Str} {p pos : Pos} {e : Expr} {es : List Expr} {t : TA}
theorem run_G {E : XK} {pins : List (Addr × Obj)} {σ : L2.St} {H : Hp} {s : Shared} {Q : VK} {us : List Value} {vs : List V} {args : Args} (F : FnG X.prog X.w X.K X.mg X.base (L2.CX X.prog X.w) k f fd ps sp) (gA : X.A.guards = some []) (hr : Room k X.A)
    (hb : us.length = ps.length → BindsTo s fd args (ps.zip us)) (hx : PassesAt (L2.CX X.prog X.w) X σ E) (I : Inv X pins σ H s) (r : Vals vs us) (h : sp vs H Q E) : wpAny (model X.prog X.w) X.A (call (.ref f) args.pos args.kw) (EP X pins σ Q) X.xe s := by
  have hl : us.length = ps.length := by rw [← r.length]; exact F.len _ _ _ _ h
  refine wpAny_call (codeAny_mono (F.run X.A gA X.stack s H args us vs Q E hr I.env0 (hb hl) r h) fun r s' hq => ?_)
  cases r with
  | error e => exact hx pins H s e s' I hq
  | ok fl =>
    cases fl with
    | ret u => exact I.after hq
    | next => exact False.elim hq
    | brk => exact False.elim hq
    | cont => exact False.elim hq
/-- f(e, ..) -/
theorem pe_callG (F : FnG X.prog X.w X.K X.mg X.base (L2.CX X.prog X.w) k f fd ps sp) (gA : X.A.guards = some []) (hr : Room k X.A) (hg : Gl X x) (hm : X.mg x = some (.ref f)) (hk : PySem.W.keepIn X.K (.ref f) = true) (hb : Binds X.K fd ps ds) (hd : Vals dvs ds) (hx : ∀ σ, PassesAt (L2.CX X.prog X.w) X σ (E σ))
    (ha : PA X (e :: es) t) (hdb : (x == ("__debug__" : Str)) = false := by decide) (he : starEach (e :: es) X.env = (false, eval e X.env) :: starEach es X.env := by rfl) (hpl : (backTo pos (starEach es X.env)).any (·.1) = false := by rfl) :
    PE X (.Call (.Name x p) (e :: es) [] pos) (tCallSD sp dvs E t) :=
  ⟨fun pins s σ H Q I h => wpAny_Call_Name_kw (ld_glob I hg hm (PySem.W.callWith_K (h₀ := X.base) I.ok.mod.kin hk (thn (ha.run pos pins s σ H _ I h) fun us s1 ⟨vs, H1, I1, r, q⟩ =>
    ⟨I1.kIn, run_G (args := ⟨us, []⟩) (us := us ++ ds) F gA hr (fun hl => hb s1 us I1.kIn hl) (hx σ) I1 (r.append hd) q⟩) he hpl) hdb)⟩
end
/-! ### the row's head -/
def isLst : Value → Bool
  | .type n => n == "list"
  | _ => false
/-- no list among the module's own objects -/
def noL (K : PySem.W.Frag) : Bool := K.all fun e => !isLst e.2.cls
theorem noL_of {K : PySem.W.Frag} (h : noL K = true) {a : Addr} {o : Obj} (e : K.lookup a = some o) (hc : o.cls = .type "list") : False := by
  have hm : (a, o) ∈ K := by
    induction K with
    | nil => cases e
    | cons x K ih =>
      obtain ⟨b, u⟩ := x
      rw [List.lookup_cons] at e
      split at e
      · rename_i q
        cases e
        rw [eq_of_beq q]
        exact List.mem_cons_self
      · refine List.mem_cons_of_mem _ (ih ?_ e)
        unfold noL at h ⊢
        rw [List.all_cons, Bool.and_eq_true] at h
        exact h.2
  have := List.all_eq_true.mp h _ hm
  rw [hc] at this
  simp [isLst] at this
theorem lawG {P : Program} {w : World} {K : PySem.W.Frag} {mg mb : Str → Option Value} {k : Nat} {fa a : Addr} {fd : FuncData} {x : Str} {sp : Sp} {s₁ : Shared} {vs : List Value} {ns : List Int}
    (hL : noL K = true) (KX : K.In s₁.heap) (hns : s₁.heap.Ns mainGlobals mg) (hb : s₁.heap.Ns builtinsNs mb) (hbb : ∀ x : Str, x ≠ "__name__" → mb x = bootBuiltins x) (hlim : s₁.heap.NoLimit) (hg : s₁.gens = #[])
    (ha : s₁.heap.get? a = some { cls := .type "list", data := .seq vs.toArray }) (hi : IntsAre vs ns) (hl : ns.length ≤ sizeLine) (hr : Room k callerA)
    (F : ∀ base : Heap, K.In base → base.Ns mainGlobals mg → FnG P w K mg base (L2.CX P w) k fa fd [x] sp) (hbind : ∀ (s : Shared) (u : Value), BindsTo s fd ⟨[u], []⟩ [(x, u)])
    (hsp : ∀ H : Hp, (∃ o, H a = some (.frz o (.lst (ns.map V.int)))) → sp [.ref a] H (fun v _ => v = .bl true) fun _ _ _ => False) :
    codeAny (model P w) callerA (.call (.ref fa) ⟨[.ref a], []⟩) (fun r s' => r = .ok (.ret (.bool true)) ∧ OldK s₁.heap s'.heap ∧ s'.os = s₁.os ∧ AllBare s'.gens) s₁ := by
  have rv := vals_ints hi
  have hK : ∀ o, K.lookup a = some o → False := fun o e => by
    have := KX a o e
    rw [ha] at this; cases this
    exact noL_of hL e rfl
  obtain ⟨H, hH⟩ : ∃ H : Hp, H = fun b => if b = a then some (.frz { cls := .type "list", data := .seq vs.toArray } (.lst (ns.map V.int))) else none := ⟨_, rfl⟩
  have at_ : H a = some (.frz { cls := .type "list", data := .seq vs.toArray } (.lst (ns.map V.int))) := by rw [hH]; exact if_pos rfl
  have off : ∀ b, b ≠ a → H b = none := fun b n => by rw [hH]; exact if_neg n
  have baseG : ∀ {b : Addr} {o : Obj}, s₁.heap.get? b = some o → b ≠ a → (hidT s₁.heap H).get? b = some o := fun e n => hidT_get e (off _ n)
  have ns1 : ∀ {b : Addr} {m : Str → Option Value}, s₁.heap.Ns b m → (hidT s₁.heap H).Ns b m := fun {b m} ⟨o, es, ep, e, d, r⟩ => ⟨o, es, ep, baseG e (fun q => by
    subst q
    rw [ha] at e; cases e
    cases d), d, r⟩
  have inB : K.In (hidT s₁.heap H) := fun b o e => baseG (KX b o e) fun q => hK o (q ▸ e)
  have hok : HOk P w H s₁.heap := fun b u z => by
    by_cases q : b = a
    · subst q
      rw [at_] at z; cases z
      exact ⟨ha, by rw [List.length_map]; exact hl, vs, _, rv, ha⟩
    · rw [off b q] at z; cases z
  have hM : Mod K mg (hidT s₁.heap H) := ⟨inB, ns1 hns, ⟨mb, ns1 hb, hbb⟩, let ⟨mc, h1, h2⟩ := hlim; ⟨mc, ns1 h1, h2⟩⟩
  have e0 : Env0 P w K mg (hidT s₁.heap H) callerA [] s₁ H := ⟨rfl, hM, fun b o e => of_hidT e, Nat.le_of_eq (hidT_size _ _), trivial, fun b hb => absurd (show b ∈ ([] : List Addr) from hb) (by simp), hok, .of_eq hg⟩
  refine codeAny_mono ((F _ inB (ns1 hns)).run callerA rfl [] s₁ H ⟨[.ref a], []⟩ [.ref a] [.ref a] _ _ hr e0 (hbind s₁ (.ref a)) (.cons rfl .nil) (hsp H ⟨_, at_⟩)) fun r s' h => ?_
  cases r with
  | error e => obtain ⟨_, _, _, _, _, _, _, _, _, _, _, _, h⟩ := h; exact h.elim
  | ok fl =>
    cases fl with
    | next => exact False.elim h
    | brk => exact False.elim h
    | cont => exact False.elim h
    | ret u =>
      obtain ⟨v, H', os, bare, un, hok', r', q⟩ := h
      obtain rfl : v = .bl true := q
      obtain rfl : u = Value.bool true := r'
      refine ⟨rfl, OldK.of_keep fun b o e => ?_, os, bare⟩
      by_cases q : b = a
      · subst q
        obtain ⟨e2, _⟩ := hok' b _ (un.frzs b _ _ at_)
        rw [ha] at e; cases e
        exact e2
      · exact un.keep b o e (off b q) (by intro z; exact absurd (show b ∈ ([] : List Addr) from z) (by simp)) (by simp)
/-- THE END: the law's function on trees gives True of every script -/
theorem walkG {l : PySem.W.OpenLaw} {n k : Nat} {q : Program} {loose : List Str} {XP : (Str → Option Value) → Heap → Prop} {YP : World → Heap → Prop} {d : DefRec} {K : Params → PySem.W.Frag} {sp : PySem.W.Frag → Sp} {x : Str}
    (hn : l.most = some n) (hn2 : n ≤ sizeLine) (hdf : d.params.defaults = []) (hr : Room k callerA)
    (hY : ∀ (w : World) (h : Heap), YP w h → (K w.params).In h) (hL : ∀ w : World, noL (K w.params) = true)
    (F : ∀ (w : World) (s₀ : Shared) (mg mb : Str → Option Value) (fa : Addr) (h : Heap), PySem.W.Ground q loose [] XP w s₀ mg mb h → (K w.params).In h → mg d.name = some (.ref fa) →
      ∃ fd : FuncData, (∀ (s : Shared) (u : Value), BindsTo s fd ⟨[u], []⟩ [(x, u)]) ∧
        ∀ base : Heap, (K w.params).In base → base.Ns mainGlobals mg → FnG l.prog w (K w.params) mg base (L2.CX l.prog w) k fa fd [x] (sp (K w.params)))
    (hsp : ∀ (w : World) (H : Hp) (a : Addr) (ns : List Int), ns.length ≤ n → (∀ z ∈ ns, Builtin.Int.intBits z ≤ 1048576) → (∃ o, H a = some (.frz o (.lst (ns.map V.int)))) → sp (K w.params) [.ref a] H (fun v _ => v = .bl true) fun _ _ _ => False) :
    PySem.W.WalkO q loose XP YP l.row.toRowW d [] (fun f vs => PySem.call f vs) := by
  refine Att.attach_callB hn hdf fun w s₀ s₁ mg mb fa o pm cd doc a vs ns G Y ho hd hcd hmg hobj hints hlen hbits hg => ?_
  have KX := hY w _ Y
  obtain ⟨fd, hb, hF⟩ := F w s₀ mg mb fa _ G KX hmg
  exact lawG (hL w) KX G.T.g G.T.b G.T.builtins G.T.nolimit hg hobj hints (Nat.le_trans hlen hn2) hr hF hb fun H hO => hsp w H a ns hlen hbits hO
end Tr
set_option Elab.async false
set_option linter.all false
set_option maxRecDepth 100000
set_option maxHeartbeats 4000000
/-! Tr.S: statements, defs, calls. -/
namespace Tr
open PySem PySem.Spec L2
/-- the slots that are never stored to are as they were -/
structure Keep (fx : Nat → Bool) (σ σ' : L2.St) : Prop where
  at_ : ∀ i, fx i = true → σ'[i]? = σ[i]?
  len : σ'.length = σ.length
theorem Keep.refl {fx : Nat → Bool} {σ : L2.St} : Keep fx σ σ := ⟨fun _ _ => rfl, rfl⟩
theorem Keep.trans {fx : Nat → Bool} {σ σ1 σ2 : L2.St} (h : Keep fx σ σ1) (k : Keep fx σ1 σ2) : Keep fx σ σ2 := ⟨fun i z => (k.at_ i z).trans (h.at_ i z), k.len.trans h.len⟩
theorem Keep.set {fx : Nat → Bool} {σ : L2.St} {i : Nat} {o : Option V} (h : fx i = false) : Keep fx σ (σ.set i o) := ⟨fun j z => by
  have : i ≠ j := fun e => by rw [e, z] at h; cases h
  exact List.getElem?_set_ne this, List.length_set⟩
section
variable (c : RC) (W : WX) (fx : Nat → Bool)
def PostS (σ : L2.St) (H : Hp) (F A : AS) (r : SR) (D : Ends) : Prop := match r with
  | .nx ρ' => ∀ σ' H' F' b, Stp H F A H' F' b → Good H' F' b → RE c H' F' ρ' σ' b → Keep fx σ σ' → D.nx σ' H'
  | .bk ρ' => ∀ σ' H' F' b, Stp H F A H' F' b → Good H' F' b → RE c H' F' ρ' σ' b → Keep fx σ σ' → D.bk σ' H'
  | .ct ρ' => ∀ σ' H' F' b, Stp H F A H' F' b → Good H' F' b → RE c H' F' ρ' σ' b → Keep fx σ σ' → D.ct σ' H'
  | .rt v ρ' => ∀ x σ' H' F' a b, Stp H F A H' F' (Uni a b) → Good H' F' (Uni a b) → Dis a b → R c H' F' v x a → RE c H' F' ρ' σ' b → Keep fx σ σ' → D.rt x H'
  | .er e ρ' => ∀ cls d σ' H' F' b, Stp H F A H' F' b → Good H' F' b → RX c H' F' e cls d → RE c H' F' ρ' σ' b → Keep fx σ σ' → W cls d σ' H'
  | .bad => False
def tS (f : SF) : TS := fun D σ H => ∃ ρ F A, Good H F A ∧ RE c H F ρ σ A ∧ PostS c W fx σ H F A (f ρ) D
def SS (X : Cx) (st : Stmt) (f : SF) : Prop := PS X st (tS c W fx f)
def SSs (X : Cx) (sts : List Stmt) (f : SF) : Prop := PSs X sts (tS c W fx f)
end
section
variable {c : RC} {W : WX} {fx : Nat → Bool} {σ σ1 : L2.St} {H H1 : Hp} {F A F1 A1 b : AS} {D : Ends}
theorem PostS.base {r : SR} (h : PostS c W fx σ H F A r D) (s : Stp H F A H1 F1 A1) (k : Keep fx σ σ1) : PostS c W fx σ1 H1 F1 A1 r D := by
  cases r with
  | nx ρ' => exact fun σ' H' F' b t g e q => h σ' H' F' b (s.trans t) g e (k.trans q)
  | bk ρ' => exact fun σ' H' F' b t g e q => h σ' H' F' b (s.trans t) g e (k.trans q)
  | ct ρ' => exact fun σ' H' F' b t g e q => h σ' H' F' b (s.trans t) g e (k.trans q)
  | rt v ρ' => exact fun x σ' H' F' a b t g d r e q => h x σ' H' F' a b (s.trans t) g d r e (k.trans q)
  | er x ρ' => exact fun cls d σ' H' F' b t g r e q => h cls d σ' H' F' b (s.trans t) g r e (k.trans q)
  | bad => exact h
theorem PostS.sub {r : SR} (h : PostS c W fx σ H F A r D) (s : Sub A1 A) : PostS c W fx σ H F A1 r D := by
  cases r with
  | nx ρ' => exact fun σ' H' F' b t g e q => h σ' H' F' b (t.more s) g e q
  | bk ρ' => exact fun σ' H' F' b t g e q => h σ' H' F' b (t.more s) g e q
  | ct ρ' => exact fun σ' H' F' b t g e q => h σ' H' F' b (t.more s) g e q
  | rt v ρ' => exact fun x σ' H' F' a b t g d r e q => h x σ' H' F' a b (t.more s) g d r e q
  | er x ρ' => exact fun cls d σ' H' F' b t g r e q => h cls d σ' H' F' b (t.more s) g r e q
  | bad => exact h
/-- an expression (a test, arguments), and what follows of its value -/
theorem tS.expr {α ν : Type} {rel : Hp → AS → α → ν → AS → Prop} {f : Env → Res α} {k : α → Env → SR} {K : ν → Hp → Prop} (h : tS c W fx (fun ρ => sOf (f ρ) k) D σ H)
    (hk : ∀ v x ρ1 H1 F1 a b, Good H1 F1 (Uni a b) → Dis a b → rel H1 F1 v x a → RE c H1 F1 ρ1 σ b → PostS c W fx σ H1 F1 (Uni a b) (k v ρ1) D → K x H1) : tG c W rel f σ H K := by
  obtain ⟨ρ, F, A, g, e, p⟩ := h
  refine ⟨ρ, F, A, g, e, ?_⟩
  cases q : f ρ with
  | ok v ρ1 =>
    simp only [q] at p
    intro x H1 F1 a b s g1 d r e1
    exact hk v x ρ1 H1 F1 a b g1 d r e1 (p.base s Keep.refl)
  | er x ρ1 =>
    simp only [q] at p
    intro cls d H1 F1 b s g1 r e1
    exact p cls d σ H1 F1 b s g1 r e1 Keep.refl
  | bad => simp only [q] at p; exact p.elim
theorem PostS.nxt {ρ : Env} (p : PostS c W fx σ H F A (.nx ρ) D) (g : Good H F A) (sb : Sub b A) (e : RE c H F ρ σ1 b) (k : Keep fx σ σ1) : D.nx σ1 H :=
  p σ1 H F b (Stp.refl.drop sb) (g.sub sb) e k
theorem RE.storeAny {ρ : Env} {a b : AS} {i : Nat} {x : PV} {v : V} (e : RE c H F ρ σ b) (r : R c H F x v a) (d : Dis a b) : RE c H F (ρ.set i (some x)) (σ.set i (some v)) (Uni a b) := by
  rcases Nat.lt_or_ge i ρ.length with l | l
  · exact e.store l r d
  · rw [List.set_eq_of_length_le l, List.set_eq_of_length_le (by rw [e.len]; exact l)]
    exact e.mono Sub.r
end
section
variable {X : Cx} {c : RC} {W : WX} {fx : Nat → Bool} {st : Stmt} {sts : List Stmt} {s u : SF} {e : Expr} {f : EF} {t : TF} {pos : Pos}
theorem ss_nil : SSs c W fx X [] sNx := by
  refine PSs.weak pss_nil fun D σ H q => ?_
  obtain ⟨ρ, F, A, g, e, p⟩ := q
  exact p.nxt g (Sub.refl _) e Keep.refl
theorem ss_cons (h : SS c W fx X st s) (hs : SSs c W fx X sts u) : SSs c W fx X (st :: sts) (sSeq s u) := by
  refine PSs.weak (pss_cons h hs) fun D σ H q => ?_
  obtain ⟨ρ, F, A, g, e, p⟩ := q
  refine ⟨ρ, F, A, g, e, ?_⟩
  unfold sSeq at p
  cases q : s ρ with
  | nx ρ1 =>
    simp only [q] at p
    exact fun σ1 H1 F1 b t g1 e1 k => ⟨ρ1, F1, b, g1, e1, p.base t k⟩
  | bk ρ1 => simp only [q] at p; exact p
  | ct ρ1 => simp only [q] at p; exact p
  | rt v ρ1 => simp only [q] at p; exact p
  | er v ρ1 => simp only [q] at p; exact p
  | bad => simp only [q] at p; exact p.elim
theorem ss_one (h : SS c W fx X st s) : SSs c W fx X [st] s := pss_one h
theorem ss_ret (h : SE X c W e f) : SS c W fx X (.Return (some e) pos) (sRet f) := by
  refine PS.weak (ps_ret h) fun D σ H q => ?_
  exact tS.expr (rel := relE c) q fun v x ρ1 H1 F1 a b g d r e p => p x σ H1 F1 a b Stp.refl g d r e Keep.refl
theorem ss_if {a b : List Stmt} (hc : ST X c W e t) (ha : SSs c W fx X a s) (hb : SSs c W fx X b u) : SS c W fx X (.If e a b pos) (sIf t s u) := by
  refine PS.weak (ps_if hc ha hb) fun D σ H q => ?_
  refine tS.expr (rel := relB) q fun v x ρ1 H1 F1 a b g d r e p => ?_
  cases (show x = v from r)
  cases v with
  | true => rw [if_pos rfl]; rw [if_pos rfl] at p; exact ⟨ρ1, F1, _, g.sub Sub.r, e, p.sub Sub.r⟩
  | false => rw [if_neg Bool.false_ne_true]; rw [if_neg Bool.false_ne_true] at p; exact ⟨ρ1, F1, _, g.sub Sub.r, e, p.sub Sub.r⟩
theorem ss_set {i : Nat} {x : Str} {pos' : Pos} (hN : X.N.Nodup) (hi : X.N[i]? = some x) (hx : Loc X.env.scope x) (hf : fx i = false) (h : SE X c W e f) (hs : swapsWith e (some (.Name x pos')) pos.line X.env = pure false := by rfl)
    (hff : X.fn x = true ∨ X.env.scope.names.lookup x = some .local := by first | exact .inl rfl | exact .inr rfl | assumption) : SS c W fx X (.Assign [.Name x pos'] e pos) (sSet i f) := by
  refine PS.weak (ps_set hN hi hx h hs hff) fun D σ H q => ?_
  refine tS.expr (rel := relE c) q fun v y ρ1 H1 F1 a b g d r e p => ?_
  exact p.nxt g (Sub.refl _) (e.storeAny r d) (Keep.set hf)
end
/-! ### a def -/
/-- its promise -/
def spF (c : RC) (n : Nat) (sem : FF) : Sp := fun xs H Q E => xs.length = n ∧ ∃ vs F A, Good H F A ∧ Rs c H F vs xs A ∧ match sem vs with
  | .ok v vs' => ∀ x H' F' a b, Stp H F A H' F' (Uni a b) → Good H' F' (Uni a b) → Dis a b → R c H' F' v x a → Rs c H' F' vs' xs b → Q x H'
  | .er e vs' => ∀ cls d H' F' b, Stp H F A H' F' b → Good H' F' b → RX c H' F' e cls d → Rs c H' F' vs' xs b → E cls d H'
  | .bad => False
section
variable {P : Program} {w : World} {K : PySem.W.Frag} {mg : Str → Option Value} {base : Heap} {c : RC}
/-- the parameters that are stored to -/
def fxOf (fx : List Bool) : Nat → Bool := fun i => fx.getD i false
/-- what the arguments are at the end -/
theorem outs_ok {H H0 : Hp} {F F0 b : AS} : ∀ {fx : List Bool} {as as' : List PV} {xs : List V} {ρ : Env} {σ : L2.St} {A1 : AS}, outs fx as ρ = some as' → RE c H F ρ σ b → (∀ i, fx.getD i false = true → σ[i]? = (xs.map some)[i]?) → Rs c H0 F0 as xs A1 → xs.length = fx.length →
    (∀ (v : PV) (x : V), R c H0 F0 v x Emp → R c H F v x Emp) → Rs c H F as' xs b
  | [], [], as', xs, ρ, σ, A1, h, e, k, r, l, up => by cases h; exact (List.eq_nil_of_length_eq_zero l)
  | true :: fx, a :: as, as', xs, some v :: ρ, σ, A1, h, e, k, r, l, up => by
    rw [outs] at h
    cases q : outs fx as ρ with
    | none => rw [q] at h; cases h
    | some ws =>
      rw [q] at h; cases h
      obtain ⟨x, xs', b1, d1, ex, s1, s2, dd, ra, rs⟩ := r
      subst ex
      obtain ⟨y, σ', b2, d2, es, t1, t2, dd2, rv, re⟩ := e
      subst es
      have e0 := k 0 rfl
      simp at e0
      subst e0
      exact ⟨y, xs', b2, d2, rfl, t1, t2, dd2, rv, outs_ok q re (fun i z => by simpa using k (i + 1) (by simpa using z)) rs (by simpa using l) up⟩
  | false :: fx, a :: as, as', xs, o :: ρ, σ, A1, h, e, k, r, l, up => by
    rw [outs] at h
    split at h
    · rename_i f
      cases q : outs fx as ρ with
      | none => rw [q] at h; cases h
      | some ws =>
        rw [q] at h; cases h
        obtain ⟨x, xs', b1, d1, ex, s1, s2, dd, ra, rs⟩ := r
        subst ex
        have tail : ∃ y σ' d2, σ = y :: σ' ∧ Sub d2 b ∧ RE c H F ρ σ' d2 := by
          cases o with
          | none => obtain ⟨y, σ', es, re⟩ := e; exact ⟨y, σ', b, es, Sub.refl _, re⟩
          | some v => obtain ⟨y, σ', b2, d2, es, t1, t2, dd2, rv, re⟩ := e; exact ⟨some y, σ', d2, es, t2, re⟩
        obtain ⟨y, σ', d2, es, t2, re⟩ := tail
        subst es
        exact ⟨x, xs', Emp, d2, rfl, Sub.emp, t2, Dis.empl, up _ _ (R.emp ra f), outs_ok q re (fun i z => by simpa using k (i + 1) (by simpa using z)) rs (by simpa using l) up⟩
    · cases h
  | true :: fx, a :: as, as', xs, none :: ρ, σ, A1, h, e, k, r, l, up => by rw [outs] at h; cases h; all_goals simp
  | [], a :: as, as', xs, ρ, σ, A1, h, e, k, r, l, up => by cases ρ <;> (rw [outs] at h; cases h; all_goals simp)
  | true :: fx, [], as', xs, ρ, σ, A1, h, e, k, r, l, up => by cases ρ <;> (rw [outs] at h; cases h; all_goals simp)
  | false :: fx, [], as', xs, ρ, σ, A1, h, e, k, r, l, up => by cases ρ <;> (rw [outs] at h; cases h; all_goals simp)
  | true :: fx, a :: as, as', xs, [], σ, A1, h, e, k, r, l, up => by rw [outs] at h; cases h; all_goals simp
  | false :: fx, a :: as, as', xs, [], σ, A1, h, e, k, r, l, up => by rw [outs] at h; cases h; all_goals simp
end
/-- where one stands: the written part, room for calls, what is wished of exceptions -/
structure Dk (X : Cx) (c : RC) (W : WX) (k : Nat) : Prop where
  K : X.K = c.K
  hr : Room k X.A
  calm : X.calm = true
  nd : X.N.Nodup
  tk : Takes X W
  po : PassesOwn (model X.prog X.w) X.A X.env X.xe
  gd : X.A.guards = some []
/-- the little that most rules lean on -/
structure Ds (X : Cx) (c : RC) : Prop where
  K : X.K = c.K
  un : X.A.units + 64 < cLine
  nd : X.N.Nodup
  gd : X.A.guards = some []
theorem Dk.s {X : Cx} {c : RC} {W : WX} {k : Nat} (h : Dk X c W k) : Ds X c := ⟨h.K, by have := h.hr.un; omega, h.nd, h.gd⟩
instance {X : Cx} {c : RC} {W : WX} {k : Nat} : CoeOut (Dk X c W k) (Ds X c) := ⟨Dk.s⟩
abbrev W0 : WX := fun _ _ _ _ => False
theorem Dk.blk {X : Cx} {c : RC} {W : WX} {k : Nat} (h : Dk X c W k) (s : Shared) (H : Hp) (sc : Scope) (ce : PySem.Env) (fp : List Addr) : Dk (X.blk s H sc ce fp) c W0 k := ⟨h.K, h.hr, h.calm, h.nd, takes0, PassesOwn.never, h.gd⟩
section
variable {P : Program} {w : World} {K : PySem.W.Frag} {mg : Str → Option Value} {base : Heap} {c : RC}
/-- THE RULE for a def -/
theorem ok_def {x qual : Str} {st : Stmt} {f : Addr} {fd : FuncData} {N ps : List Str} {k : Nat} {sem : SF} (fx : List Bool) (hK : K = c.K) (Fn : Fun K x qual st f fd) (S : FnScope N ps (defScope st)) (hl : fx.length = ps.length) (hN : ps.length ≤ N.length)
    (body : ∀ (X : Cx) (W : WX), (∃ cdv A outer s H E, X = cxOf (L2.CX P w) P w K mg base N qual (defScope st) f cdv A outer s H E) → Dk X c W k → SSs c W (fxOf fx) X (defBody st) sem) :
    FnG P w K mg base (L2.CX P w) (k + 1) f fd ps (spF c ps.length (mk fx N.length sem)) := by
  refine Fun.okG Fn S (fun vs H Q E h => h.1) fun cdv A outer s H vs Q E gA hr h => ?_
  obtain ⟨l, as, F, A0, g, r, p⟩ := h
  refine ⟨_, body _ (fun cls d _ H' => E cls d H') ⟨cdv, A, outer, s, H, E, rfl⟩ ⟨hK, hr, rfl, S.nd, takes_of rfl rfl rfl rfl, passes_of rfl, gA⟩, ?_⟩
  have las : as.length = vs.length := by rw [r.len]
  have est : L2.start N vs = vs.map some ++ List.replicate (N.length - fx.length) none := by
    unfold L2.start
    rw [l, hl]
  refine ⟨as.map some ++ List.replicate (N.length - fx.length) none, F, A0, g, by rw [est]; exact RE.start _ r, ?_⟩
  unfold mk at p
  rw [if_pos (by rw [las, l, hl])] at p
  have up : ∀ {H' : Hp} {F' b : AS}, Stp H F A0 H' F' b → ∀ (v : PV) (x : V), R c H F v x Emp → R c H' F' v x Emp := fun t v x q => q.step g t Dis.empl
  have kp : ∀ {σ' : L2.St}, Keep (fxOf fx) (L2.start N vs) σ' → ∀ i, fx.getD i false = true → σ'[i]? = (vs.map some)[i]? := fun {σ'} q i z => by
    rw [q.at_ i z, est]
    have hi : i < fx.length := by
      rcases Nat.lt_or_ge i fx.length with h | h
      · exact h
      · rw [List.getD_eq_getElem?_getD, List.getElem?_eq_none h] at z; cases z
    rw [List.getElem?_append_left (by rw [List.length_map, l, ← hl]; exact hi)]
  have lv : vs.length = fx.length := by rw [l, hl]
  cases q : sem (as.map some ++ List.replicate (N.length - fx.length) none) with
  | nx ρ' =>
    simp only [q] at p
    intro σ' H' F' b t g1 e1 kk
    unfold fin at p
    cases o : outs fx as ρ' with
    | none => simp only [o] at p
    | some ws =>
      simp only [o] at p
      exact p .non H' F' Emp b (t.drop (Sub.uni Sub.emp (Sub.refl _))) (g1.sub (Sub.uni Sub.emp (Sub.refl _))) Dis.empl rfl (outs_ok o e1 (kp kk) r lv (up t))
  | rt v ρ' =>
    simp only [q] at p
    intro x σ' H' F' a b t g1 d rv e1 kk
    unfold fin at p
    cases o : outs fx as ρ' with
    | none => simp only [o] at p
    | some ws =>
      simp only [o] at p
      exact p x H' F' a b t g1 d rv (outs_ok o e1 (kp kk) r lv (up t))
  | er x ρ' =>
    simp only [q] at p
    intro cls d σ' H' F' b t g1 rx e1 kk
    unfold finE at p
    cases o : outs fx as ρ' with
    | none => simp only [o] at p
    | some ws =>
      simp only [o] at p
      exact p cls d H' F' b t g1 rx (outs_ok o e1 (kp kk) r lv (up t))
  | bk ρ' => simp only [q] at p
  | ct ρ' => simp only [q] at p
  | bad => simp only [q] at p
end
end Tr
/-! Tr: calls, on trees. -/
set_option autoImplicit false
namespace Tr
def goAll : List Opd → Env → Res (List (Option PV))
  | [], ρ => .ok [] ρ
  | o :: os, ρ => (o.go ρ).bind fun t ρ1 => (goAll os ρ1).bind fun ts ρ2 => .ok (t :: ts) ρ2
/-- an argument is handed over: a name's slot is lent (it stays where nothing in it may be written) -/
def take1 (o : Opd) (t : Option PV) (ρ : Env) : Option (PV × Env) := match o with
  | .nm i => match slot ρ i with
    | some v => if fro v = true then some (v, ρ) else some (v, ρ.set i none)
    | none => none
  | .ev _ => match t with
    | some v => some (v, ρ)
    | none => none
def takeAll : List Opd → List (Option PV) → Env → Option (List PV × Env)
  | [], [], ρ => some ([], ρ)
  | o :: os, t :: ts, ρ => match take1 o t ρ with
    | some (v, ρ1) => match takeAll os ts ρ1 with
      | some (vs, ρ2) => some (v :: vs, ρ2)
      | none => none
    | none => none
  | _, _, _ => none
/-- and given back -/
def give1 (o : Opd) (v w : PV) (ρ : Env) : Env := match o with
  | .nm i => if fro v = true then ρ else ρ.set i (some w)
  | .ev _ => ρ
def giveAll : List Opd → List PV → List PV → Env → Env
  | o :: os, v :: vs, w :: ws, ρ => give1 o v w (giveAll os vs ws ρ)
  | _, _, _, ρ => ρ
def back {α : Type} (r : FR) (k : PV → Env → Res α) (g : List PV → Env) : Res α := match r with
  | .ok v ws => k v (g ws)
  | .er e ws => .er e (g ws)
  | .bad => .bad
/-- f(..); ds: the defaults that are left -/
def eCall (sem : FF) (os : List Opd) (ds : List PV) : EF := fun ρ => (goAll os ρ).bind fun ts ρ1 => match takeAll os ts ρ1 with
  | none => .bad
  | some (vs, ρ2) => back (sem (vs ++ ds)) .ok fun ws => giveAll os vs ws ρ2
end Tr
set_option Elab.async false
set_option linter.all false
set_option maxRecDepth 100000
set_option maxHeartbeats 4000000
/-! Tr.C: calls of the text's defs. -/
namespace Tr
open PySem PySem.Spec L2
section
variable (c : RC) (σ : L2.St) (H : Hp) (F : AS)
def Tmps : List Opd → List (Option PV) → List V → AS → Prop
  | [], ts, xs, _ => ts = [] ∧ xs = []
  | o :: os, ts, xs, a => ∃ t ts' x xs' b d, ts = t :: ts' ∧ xs = x :: xs' ∧ Sub b a ∧ Sub d a ∧ Dis b d ∧ Tmp c σ H F o t x b ∧ Tmps os ts' xs' d
end
/-- what stands behind the names among operands -/
def Nms (σ : L2.St) : List Opd → List V → Prop
  | [], _ => True
  | o :: os, xs => ∃ x xs', xs = x :: xs' ∧ (match o with | .nm i => σ[i]? = some (some x) | .ev _ => True) ∧ Nms σ os xs'
section
variable {β μ : Type} {c : RC} {W : WX} {rel' : Hp → AS → β → μ → AS → Prop} {σ : L2.St} {H H' : Hp} {F A F' A' : AS}
theorem Tmps.nms : ∀ {os : List Opd} {ts : List (Option PV)} {xs : List V} {a : AS}, Tmps c σ H F os ts xs a → Nms σ os xs
  | [], _, _, _, _ => trivial
  | o :: os, _, _, _, ⟨t, ts', x, xs', b, d, _, e, _, _, _, tm, tl⟩ => ⟨x, xs', e, by
      cases o with
      | nm i => exact tm
      | ev f => trivial, tl.nms⟩
theorem Tmps.step (g : Good H F A) (s : Stp H F A H' F' A') : ∀ {os : List Opd} {ts : List (Option PV)} {xs : List V} {a : AS}, Tmps c σ H F os ts xs a → Dis a A → Tmps c σ H' F' os ts xs a
  | [], _, _, _, h, _ => h
  | o :: os, _, _, _, ⟨t, ts', x, xs', b, d, e1, e2, s1, s2, k, tm, tl⟩, dd => ⟨t, ts', x, xs', b, d, e1, e2, s1, s2, k, tm.step g s (dd.mono s1 (Sub.refl _)), tl.step g s (dd.mono s2 (Sub.refl _))⟩
def tOs (c : RC) (W : WX) : List Opd → TA
  | [] => tNil
  | o :: os => tCons (tO c W o) (tOs c W os)
theorem tOs.next : ∀ {os : List Opd} {g : List (Option PV) → Env → Res β} {Q : μ → Hp → Prop} {K : List V → Hp → Prop} {ρ : Env} {t b : AS} {H : Hp} {F A : AS},
    Good H F A → Sub t A → Sub b A → Dis t b → RE c H F ρ σ b → Post c W rel' σ H F A ((goAll os ρ).bind g) Q →
    (∀ us xs ρ1 H1 F1 a1 b1, Good H1 F1 (Uni t (Uni a1 b1)) → Dis t (Uni a1 b1) → Dis a1 b1 → Tmps c σ H1 F1 os us xs a1 → RE c H1 F1 ρ1 σ b1 → Stp H F b H1 F1 (Uni a1 b1) →
      Post c W rel' σ H1 F1 (Uni t (Uni a1 b1)) (g us ρ1) Q → K xs H1) → tOs c W os σ H K
  | [], g, Q, K, ρ, t, b, H, F, A, gd, st, sb, d, e, p, k => by
    refine k [] [] ρ H F Emp b (gd.sub (Sub.uni st (Sub.uni Sub.emp sb))) (fun q x y => y.elim (fun z => z) (d q x)) Dis.empl ⟨rfl, rfl⟩ e (Stp.refl.drop (Sub.uni Sub.emp (Sub.refl _))) (Post.sub p (Sub.uni st (Sub.uni Sub.emp sb)))
  | o :: os, g, Q, K, ρ, t, b, H, F, A, gd, st, sb, d, e, p, k => by
    have p' : Post c W rel' σ H F A ((o.go ρ).bind fun t ρ1 => (goAll os ρ1).bind fun ts ρ2 => g (t :: ts) ρ2) Q := by
      unfold goAll at p
      cases q : o.go ρ with
      | ok u ρ1 =>
        simp only [q, Res.bind_ok] at p ⊢
        cases q2 : goAll os ρ1 with
        | ok us ρ2 => simp only [q2, Res.bind_ok] at p ⊢; exact p
        | er x ρ2 => simp only [q2, Res.bind_er] at p ⊢; exact p
        | bad => simp only [q2, Res.bind_bad] at p; exact p.elim
      | er x ρ1 => simp only [q, Res.bind_er] at p ⊢; exact p
      | bad => simp only [q, Res.bind_bad] at p; exact p.elim
    refine tO.next gd st sb d e p' fun u x ρ1 H1 F1 a1 b1 g1 d1 d2 tm e1 s1 p1 => ?_
    refine tOs.next (os := os) (t := Uni t a1) (b := b1) g1 (Sub.uni Sub.l (Sub.l.trans Sub.r)) (Sub.r.trans Sub.r) ?_ e1 p1 fun us xs ρ2 H2 F2 a2 b2 g2 d3 d4 tms e2 s2 p2 => ?_
    · exact Dis.uni (fun q y z => d1 q y (.inr z)) d2
    have g1b := g1.sub (show Sub b1 _ from Sub.r.trans Sub.r)
    have tm2 := tm.step g1b s2 d2
    have sw : Sub (Uni t (Uni (Uni a1 a2) b2)) (Uni (Uni t a1) (Uni a2 b2)) := by
      intro q y
      rcases y with y | (y | y) | y
      · exact .inl (.inl y)
      · exact .inl (.inr y)
      · exact .inr (.inl y)
      · exact .inr (.inr y)
    have d12 : Dis a1 a2 := fun q y z => d3 q (.inr y) (.inl z)
    refine k (u :: us) (x :: xs) ρ2 H2 F2 (Uni a1 a2) b2 (g2.sub sw) ?_ ?_ ⟨u, us, x, xs, a1, a2, rfl, rfl, Sub.l, Sub.r, d12, tm2, tms⟩ e2 ?_ (p2.sub sw)
    · intro q y z
      rcases z with (z | z) | z
      · exact d1 q y (.inl z)
      · exact d3 q (.inl y) (.inl z)
      · exact d3 q (.inl y) (.inr z)
    · exact Dis.uni (fun q y z => d3 q (.inr y) (.inr z)) d4
    · refine (s1.trans ((s2.frame (B := a1)))).drop ?_
      intro q y
      rcases y with (y | y) | y
      · exact .inl y
      · exact .inr (.inl y)
      · exact .inr (.inr y)
/-- the operands handed over -/
theorem take_ok : ∀ {os : List Opd} {ts : List (Option PV)} {xs : List V} {a b : AS} {ρ ρ2 : Env} {vs : List PV}, Tmps c σ H F os ts xs a → RE c H F ρ σ b → Dis a b → takeAll os ts ρ = some (vs, ρ2) →
    ∃ a2 b2, Sub a2 (Uni a b) ∧ Sub b2 b ∧ Dis a2 b2 ∧ Rs c H F vs xs a2 ∧ RE c H F ρ2 σ b2
  | [], _, _, a, b, ρ, ρ2, vs, ⟨rfl, rfl⟩, e, d, h => by
    rw [takeAll] at h; cases h
    exact ⟨Emp, b, Sub.emp, Sub.refl _, Dis.empl, rfl, e⟩
  | o :: os, _, _, a, b, ρ, ρ2, vs, ⟨t, ts, x, xs, a1, d1, rfl, rfl, s1, s2, k, tm, tl⟩, e, d, h => by
    rw [takeAll] at h
    cases q : take1 o t ρ with
    | none => simp only [q] at h; cases h
    | some z =>
      obtain ⟨v, ρ1⟩ := z
      simp only [q] at h
      cases q2 : takeAll os ts ρ1 with
      | none => simp only [q2] at h; cases h
      | some z2 =>
        obtain ⟨ws, ρ3⟩ := z2
        simp only [q2] at h
        cases h
        have one : ∃ a3 b3, Sub a3 (Uni a1 b) ∧ Sub b3 b ∧ Dis a3 b3 ∧ (∀ q, a3 q → d1 q → False) ∧ R c H F v x a3 ∧ RE c H F ρ1 σ b3 := by
          cases o with
          | nm i =>
            rw [take1] at q
            cases q3 : slot ρ i with
            | none => simp only [q3] at q; cases q
            | some v' =>
              simp only [q3] at q
              have ex : σ[i]? = some (some x) := tm
              split at q
              · rename_i f
                cases q
                obtain ⟨y, d2, h1, h2, h3⟩ := e.look q3
                rw [ex] at h1; cases h1
                exact ⟨Emp, b, Sub.emp, Sub.refl _, Dis.empl, fun _ z => z.elim, R.emp h3 f, e⟩
              · cases q
                obtain ⟨y, b3, d3, h1, h2, h3, h4, h5, h6⟩ := e.take q3
                rw [ex] at h1; cases h1
                exact ⟨b3, d3, h2.trans Sub.r, h3, h4, fun q y z => d q (s2 q z) (h2 q y), h5, h6⟩
          | ev f =>
            obtain ⟨v', e1, r⟩ := tm
            subst e1
            rw [take1] at q
            cases q
            exact ⟨a1, b, Sub.l, Sub.refl _, d.mono s1 (Sub.refl _), k, r, e⟩
        obtain ⟨a3, b3, t1, t2, t3, t4, r, e3⟩ := one
        obtain ⟨a4, b4, u1, u2, u3, rs, e4⟩ := take_ok tl e3 (d.mono s2 t2) q2
        refine ⟨Uni a3 a4, b4, ?_, u2.trans t2, ?_, ⟨x, xs, a3, a4, rfl, Sub.l, Sub.r, ?_, r, rs⟩, e4⟩
        · refine Sub.uni (fun q y => (t1 q y).imp_left (s1 q)) fun q y => (u1 q y).elim (fun z => .inl (s2 q z)) fun z => .inr (t2 q z)
        · exact Dis.uni (fun q y z => t3 q y (u2 q z)) u3
        · intro q y z
          rcases u1 q z with z | z
          · exact t4 q y z
          · exact t3 q y z
/-- and given back -/
theorem give_ok : ∀ {os : List Opd} {vs ws : List PV} {xs ys : List V} {a b : AS} {ρ : Env}, Nms σ os xs → Rs c H F ws (xs ++ ys) a → RE c H F ρ σ b → Dis a b → RE c H F (giveAll os vs ws ρ) σ (Uni a b)
  | [], vs, ws, xs, ys, a, b, ρ, n, r, e, d => by
    rw [giveAll]
    · exact e.mono Sub.r
    · intros; simp_all
  | o :: os, vs, ws, _, ys, a, b, ρ, ⟨x, xs, rfl, n1, n2⟩, r, e, d => by
    cases vs with
    | nil => rw [giveAll]; exact e.mono Sub.r; intros; simp_all
    | cons v vs =>
      cases ws with
      | nil => cases r
      | cons w ws =>
        rw [giveAll]
        obtain ⟨x', xs', a1, a2, ex, s1, s2, k, rw', rs⟩ := r
        cases ex
        have e2 := give_ok (vs := vs) n2 rs e (d.mono s2 (Sub.refl _))
        cases o with
        | nm i =>
          rw [give1]
          split
          · exact e2.mono (Sub.uni (s2.trans Sub.l) Sub.r)
          · have e3 := RE.put (e2.wipe i) n1 rw' (fun q y z => z.elim (k q y) (d q (s1 q y)))
            rw [List.set_set] at e3
            exact e3.mono (Sub.uni (s1.trans Sub.l) (Sub.uni (s2.trans Sub.l) Sub.r))
        | ev f => exact e2.mono (Sub.uni (s2.trans Sub.l) Sub.r)
/-- the callee's promise, met -/
theorem call_ok {sem : FF} {os : List Opd} {ts : List (Option PV)} {xs : List V} {dps : List PV} {dvs : List V} {a b : AS} {ρ : Env} {Q : VK} {n : Nat} (g : Good H F A) (sa : Sub a A) (sb : Sub b A) (d : Dis a b) (tm : Tmps c σ H F os ts xs a) (e : RE c H F ρ σ b)
    (hd : Rs c H F dps dvs Emp) (hn : os.length + dps.length = n)
    (p : Post c W (relE c) σ H F A (match takeAll os ts ρ with | none => .bad | some (vs, ρ2) => back (sem (vs ++ dps)) .ok fun ws => giveAll os vs ws ρ2) Q) : spF c n sem (xs ++ dvs) H Q (fun cls d H' => W cls d σ H') := by
  cases q : takeAll os ts ρ with
  | none => simp only [q] at p; exact p.elim
  | some z =>
    obtain ⟨vs, ρ2⟩ := z
    simp only [q] at p
    obtain ⟨a2, b2, s1, s2, d2, r, e2⟩ := take_ok tm e d q
    have r2 : Rs c H F (vs ++ dps) (xs ++ dvs) a2 := (Rs.append r hd Dis.empr).mono fun q z => z.elim id False.elim
    have sa2 : Sub a2 A := fun q z => (s1 q z).elim (sa q) (sb q)
    have sb2 : Sub b2 A := s2.trans sb
    have lx : xs.length = os.length := by
      have go : ∀ {os : List Opd} {ts : List (Option PV)} {xs : List V} {a : AS}, Tmps c σ H F os ts xs a → xs.length = os.length := by
        intro os
        induction os with
        | nil => intro ts xs a h; rw [h.2]; rfl
        | cons o os ih => rintro ts xs a ⟨_, _, _, _, _, _, _, e, _, _, _, _, tl⟩; rw [e, List.length_cons, List.length_cons, ih tl]
      exact go tm
    refine ⟨by rw [List.length_append, lx, hd.len]; exact hn, vs ++ dps, F, a2, g.sub sa2, r2, ?_⟩
    have g2 := g.sub (Sub.uni sa2 sb2)
    have later : ∀ {H' : Hp} {F' A' : AS}, Stp H F a2 H' F' A' → Good H' F' A' → Dis A' b2 ∧ Good H' F' b2 ∧ RE c H' F' ρ2 σ b2 ∧ Stp H F A H' F' (Uni b2 A') := fun s g' =>
      ⟨(s.apart (g.sub sb2) d2.sym).sym, (g.sub sb2).kept s g' d2.sym, e2.step (g.sub sa2) s d2.sym, (s.frame (B := b2)).more (Sub.uni sb2 sa2)⟩
    cases q2 : sem (vs ++ dps) with
    | bad => simp only [q2, back] at p; exact p.elim
    | ok v ws =>
      simp only [q2, back] at p
      intro x H' F' a3 b3 s g3 d3 rv rw'
      obtain ⟨l1, l2, l3, l4⟩ := later s g3
      have e4 := give_ok (vs := vs) tm.nms rw' l3 (fun q y z => l1 q (.inr y) z)
      refine p x H' F' a3 (Uni b3 b2) (l4.drop ?_) (((g3.uni l2)).sub ?_) ?_ rv e4
      · exact fun q y => y.elim (fun z => .inr (.inl z)) fun z => z.elim (fun z => .inr (.inr z)) .inl
      · exact fun q y => y.elim (fun z => .inl (.inl z)) fun z => z.elim (fun z => .inl (.inr z)) .inr
      · exact fun q y z => z.elim (d3 q y) (l1 q (.inl y))
    | er x ws =>
      simp only [q2, back] at p
      intro cls dd H' F' b3 s g3 rx rw'
      obtain ⟨l1, l2, l3, l4⟩ := later s g3
      have e4 := give_ok (vs := vs) tm.nms rw' l3 (fun q y z => l1 q y z)
      exact p cls dd H' F' (Uni b3 b2) (l4.drop (Sub.uni Sub.r Sub.l)) (g3.uni l2) rx e4
end
section
variable {X : Cx} {c : RC} {W : WX} {k j n : Nat} {f : Addr} {fd : FuncData} {ps : List Str} {sem : FF} {dvs : List V} {dps : List PV} {ds : List Value} {x : Str} {p pos : Pos} {e : Expr} {es : List Expr} {os : List Opd}
/-- operands in a row -/
def SOs (X : Cx) (c : RC) (W : WX) (es : List Expr) (os : List Opd) : Prop := PA X es (tOs c W os)
theorem sos_nil : SOs X c W [] [] := pa_nil
theorem sos_cons {o : Opd} (h : SO X c W e o) (hs : SOs X c W es os) (st : starEach (e :: es) X.env = (false, eval e X.env) :: starEach es X.env := by rfl) : SOs X c W (e :: es) (o :: os) := pa_cons h hs st
theorem call_q {os : List Opd} {σ : L2.St} {H : Hp} {Q : VK} (hd : ∀ H F, Rs c H F dps dvs Emp) (hn : os.length + dps.length = n) (q : tEx c W (eCall sem os dps) σ H Q) : tOs c W os σ H fun xs H1 => spF c n sem (xs ++ dvs) H1 Q (fun cls d H' => W cls d σ H') := by
  obtain ⟨ρ, F, A, gd, e, p⟩ := q
  refine tOs.next (t := Emp) gd Sub.emp (Sub.refl _) Dis.empl e p fun us xs ρ1 H1 F1 a1 b1 g1 _ d tm e1 s p1 => ?_
  exact call_ok g1 (Sub.l.trans Sub.r) (Sub.r.trans Sub.r) d tm e1 (hd _ _) hn p1
theorem se_call (D : Dk X c W j) (G : FnG X.prog X.w X.K X.mg X.base (L2.CX X.prog X.w) k f fd ps (spF c n sem)) (hr : k ≤ j) (hg : Gl X x) (hm : X.mg x = some (.ref f)) (hk : PySem.W.keepIn X.K (.ref f) = true) (hb : Binds X.K fd ps ds) (hd : Vals dvs ds) (hp : ∀ H F, Rs c H F dps dvs Emp)
    (ha : SOs X c W (e :: es) os) (hn : os.length + dps.length = n) (hdb : (x == ("__debug__" : Str)) = false := by decide) (he : starEach (e :: es) X.env = (false, eval e X.env) :: starEach es X.env := by rfl) (hpl : (backTo pos (starEach es X.env)).any (·.1) = false := by rfl) :
    SE X c W (.Call (.Name x p) (e :: es) [] pos) (eCall sem os dps) :=
  PE.weak (pe_callG (E := fun σ cls d H' => W cls d σ H') G D.gd (D.hr.mono hr) hg hm hk hb hd (fun σ => passAt D.tk σ) ha hdb he hpl) fun σ H Q q => call_q hp hn q
end
end Tr
/-! Tr: loops, targets, on trees. -/
set_option autoImplicit false
namespace Tr
/-- a target's store -/
abbrev BF := PV → Env → Option Env
def bN (i : Nat) : BF := fun v ρ => some (ρ.set i (some v))
def bAll : List BF → List PV → Env → Option Env
  | [], [], ρ => some ρ
  | b :: bs, v :: vs, ρ => match b v ρ with
    | some ρ1 => bAll bs vs ρ1
    | none => none
  | _, _, _ => none
def bT (bs : List BF) : BF := fun v ρ => match v with
  | .tup xs => bAll bs xs ρ
  | _ => none
/-- what is walked -/
def items : PV → Option (List PV)
  | .tup xs => some xs
  | .lst _ xs => some xs
  | _ => none
def loop (b : BF) (s : SF) : List PV → Env → SR
  | [], ρ => .nx ρ
  | x :: xs, ρ => match b x ρ with
    | none => .bad
    | some ρ1 => match s ρ1 with
      | .nx ρ2 => loop b s xs ρ2
      | .ct ρ2 => loop b s xs ρ2
      | .bk ρ2 => .nx ρ2
      | r => r
def after (r : SR) (g : Env → Env) : SR := match r with
  | .nx ρ => .nx (g ρ)
  | .bk ρ => .bk (g ρ)
  | .ct ρ => .ct (g ρ)
  | .rt v ρ => .rt v (g ρ)
  | .er e ρ => .er e (g ρ)
  | .bad => .bad
/-- what a for walks: frozen items -/
abbrev IF := Env → Res (List PV)
def iE (f : EF) : IF := fun ρ => (f ρ).bind fun v ρ1 => .of (items (frz v)) ρ1
def iRange1 (f : EF) : IF := fun ρ => (f ρ).bind fun v ρ1 => match v with
  | .int n => if decide (-(2 ^ 62) ≤ n) && decide (n < 2 ^ 62) && decide (n.toNat ≤ big) then .ok ((List.range n.toNat).map fun i => .int (i : Nat)) ρ1 else .bad
  | _ => .bad
def sFor (w : IF) (b : BF) (s : SF) : SF := fun ρ => sOf (w ρ) fun xs ρ1 => loop b s xs ρ1
/-- over a list in a slot, which nothing in the loop asks for -/
def sForN (i : Nat) (b : BF) (s : SF) : SF := fun ρ => match slot ρ i with
  | some v => match items v with
    | some xs => if fros xs = true then after (loop b s xs (ρ.set i none)) (fun ρ' => ρ'.set i (some v)) else .bad
    | none => .bad
  | none => .bad
def sSetT (b : BF) (f : EF) : SF := fun ρ => sOf (f ρ) fun v ρ1 => match b v ρ1 with
  | some ρ2 => .nx ρ2
  | none => .bad
/-- without an exception -/
def Res.bindB {α β : Type} (r : Res α) (k : α → Env → Res β) : Res β := match r with
  | .ok a ρ => k a ρ
  | _ => .bad
@[simp] theorem Res.bindB_ok {α β : Type} (a : α) (ρ : Env) (k : α → Env → Res β) : Res.bindB (.ok a ρ) k = k a ρ := rfl
def wipeE : List Nat → Env → Env
  | [], ρ => ρ
  | i :: is, ρ => (wipeE is ρ).set i none
/-- a comprehension's turns -/
def compL (own : List Nat) (b : BF) (t : TF) (f : EF) : List PV → Env → Res (List PV)
  | [], ρ => .ok [] ρ
  | x :: xs, ρ => match b x ρ with
    | none => .bad
    | some ρ1 => (t ρ1).bindB fun c ρ2 => if c = true then (f ρ2).bindB fun v ρ3 => (compL own b t f xs (wipeE own ρ3)).bindB fun vs ρ4 => .ok (v :: vs) ρ4 else compL own b t f xs (wipeE own ρ2)
/-- the names of the block hold again what they held, where this was frozen -/
def restore : List Nat → Env → Env → Env
  | [], _, ρ => ρ
  | i :: is, ρ0, ρ => match slot ρ0 i with
    | some v => if fro v = true then (restore is ρ0 ρ).set i (some v) else restore is ρ0 ρ
    | none => restore is ρ0 ρ
def tYes : TF := fun ρ => .ok true ρ
/-- [f for b in w if t] -/
def eComp (own : List Nat) (w : IF) (b : BF) (t : TF) (f : EF) : EF := fun ρ => (w ρ).bind fun xs ρ1 => (compL own b t f xs (wipeE own ρ1)).bindB fun vs ρ2 => .ok (.lst true vs) (restore own ρ1 ρ2)
/-- over a list that stands in a slot -/
def eCompN (own : List Nat) (i : Nat) (b : BF) (t : TF) (f : EF) : EF := fun ρ => match slot ρ i with
  | some v => match items v with
    | some xs => if fros xs = true then
        if fro v = true then (compL own b t f xs (wipeE own ρ)).bindB fun vs ρ2 => .ok (.lst true vs) (restore own ρ ρ2)
        else (compL own b t f xs (wipeE own (ρ.set i none))).bindB fun vs ρ2 => .ok (.lst true vs) ((restore own ρ ρ2).set i (some v))
      else .bad
    | none => .bad
  | none => .bad
end Tr
set_option Elab.async false
set_option linter.all false
set_option maxRecDepth 100000
set_option maxHeartbeats 4000000
/-! Tr.F: targets, for. -/
namespace Tr
open PySem PySem.Spec L2
/-! ### targets -/
section
variable (c : RC) (fx : Nat → Bool)
def tGt (b : BF) : TG := fun x σ H Q => ∃ v ρ F a e, Good H F (Uni a e) ∧ Dis a e ∧ R c H F v x a ∧ RE c H F ρ σ e ∧ ∃ ρ', b v ρ = some ρ' ∧
  ∀ σ' H' F' e', Stp H F (Uni a e) H' F' e' → Good H' F' e' → RE c H' F' ρ' σ' e' → Keep fx σ σ' → Q σ' H'
def tGts (bs : List BF) : TGs := fun xs σ H Q => ∃ vs ρ F a e, Good H F (Uni a e) ∧ Dis a e ∧ Rs c H F vs xs a ∧ RE c H F ρ σ e ∧ ∃ ρ', bAll bs vs ρ = some ρ' ∧
  ∀ σ' H' F' e', Stp H F (Uni a e) H' F' e' → Good H' F' e' → RE c H' F' ρ' σ' e' → Keep fx σ σ' → Q σ' H'
def SG (X : Cx) (tg : Expr) (b : BF) : Prop := PG X tg (tGt c fx b)
def SGs (X : Cx) (ts : List Expr) (bs : List BF) : Prop := PGs X ts (tGts c fx bs)
end
section
variable {X : Cx} {c : RC} {W : WX} {fx : Nat → Bool} {tg : Expr} {ts : List Expr} {b : BF} {bs : List BF} {pos : Pos}
theorem PG.weak {t t' : TG} (h : PG X tg t) (k : ∀ v σ H Q, t' v σ H Q → t v σ H Q) : PG X tg t' := ⟨fun pins s σ H v u Q I r q => h.run pins s σ H v u Q I r (k v σ H Q q)⟩
theorem PGs.weak {t t' : TGs} (h : PGs X ts t) (k : ∀ v σ H Q, t' v σ H Q → t v σ H Q) : PGs X ts t' := ⟨fun pins s σ H v u Q I r q => h.run pins s σ H v u Q I r (k v σ H Q q)⟩
theorem sg_name {i : Nat} {x : Str} (hN : X.N.Nodup) (hi : X.N[i]? = some x) (hx : Loc X.env.scope x) (hf : fx i = false) (hff : X.fn x = true ∨ X.env.scope.names.lookup x = some .local := by first | exact .inl rfl | exact .inr rfl | assumption) : SG c fx X (.Name x pos) (bN i) := by
  refine PG.weak (pg_name hN hi hx hff) fun x σ H Q q => ?_
  obtain ⟨v, ρ, F, a, e, g, d, r, re, ρ', hb, k⟩ := q
  cases hb
  exact k _ H F (Uni a e) Stp.refl g (re.storeAny r d) (Keep.set hf)
theorem sgs_nil : SGs c fx X [] [] := by
  refine PGs.weak pgs_nil fun xs σ H Q q => ?_
  obtain ⟨vs, ρ, F, a, e, g, d, r, re, ρ', hb, k⟩ := q
  cases vs with
  | nil =>
    rw [bAll] at hb; cases hb
    exact ⟨r, k σ H F e (Stp.refl.drop Sub.r) (g.sub Sub.r) re Keep.refl⟩
  | cons _ _ => rw [bAll] at hb; cases hb; all_goals (intros; simp_all)
theorem sgs_cons (h : SG c fx X tg b) (hs : SGs c fx X ts bs) (st : (assignEach (tg :: ts) X.env).map (·.2) = assign tg X.env :: (assignEach ts X.env).map (·.2) := by rfl) : SGs c fx X (tg :: ts) (b :: bs) := by
  refine PGs.weak (pgs_cons h hs st) fun xs σ H Q q => ?_
  obtain ⟨vs, ρ, F, a, e, g, d, r, re, ρ', hb, k⟩ := q
  cases vs with
  | nil => rw [bAll] at hb; cases hb; all_goals (intros; simp_all)
  | cons v vs =>
    rw [bAll] at hb
    cases q1 : b v ρ with
    | none => simp only [q1] at hb; cases hb
    | some ρ1 =>
      simp only [q1] at hb
      obtain ⟨x, xs', a1, a2, ex, s1, s2, dd, rv, rs⟩ := r
      refine ⟨x, xs', ex, v, ρ, F, a1, e, g.sub (Sub.uni (s1.trans Sub.l) Sub.r), d.mono s1 (Sub.refl _), rv, re, ρ1, q1, fun σ1 H1 F1 e1 t1 g1 r1 k1 => ?_⟩
      have da : Dis a2 (Uni a1 e) := fun q y z => z.elim (fun z => dd q z y) (d q (s2 q y))
      have g2 : Good H F a2 := g.sub (s2.trans Sub.l)
      have ga := g2.kept t1 g1 da
      have de := t1.apart g2 da
      refine ⟨vs, ρ1, F1, a2, e1, ga.uni g1, de, rs.step (g.sub (Sub.uni (s1.trans Sub.l) Sub.r)) t1 da, r1, ρ', hb, fun σ2 H2 F2 e2 t2 g3 r2 k2 => ?_⟩
      refine k σ2 H2 F2 e2 (((t1.frame (B := a2)).more ?_).trans t2) g3 r2 (k1.trans k2)
      exact Sub.uni (s2.trans Sub.l) (Sub.uni (s1.trans Sub.l) Sub.r)
theorem bAll_len : ∀ {bs : List BF} {vs : List PV} {ρ ρ' : Env}, bAll bs vs ρ = some ρ' → vs.length = bs.length
  | [], [], _, _, _ => rfl
  | b :: bs, v :: vs, ρ, ρ', h => by
    rw [bAll] at h
    cases q : b v ρ with
    | none => simp only [q] at h; cases h
    | some ρ1 => simp only [q] at h; rw [List.length_cons, List.length_cons, bAll_len h]
  | [], _ :: _, _, _, h => by rw [bAll] at h; cases h; all_goals (intros; simp_all)
  | _ :: _, [], _, _, h => by rw [bAll] at h; cases h; all_goals (intros; simp_all)
theorem sg_tup {k : Nat} (hK : X.K = c.K) (hc : X.calm = true) (h : SGs c fx X ts bs) (hn : (assignEach ts X.env).length = bs.length := by rfl) (hst : (assignEach ts X.env).findIdx? (·.1) = none := by rfl) : SG c fx X (.Tuple ts k pos) (bT bs) := by
  refine PG.weak (pg_tup hc h hn hst) fun x σ H Q q => ?_
  obtain ⟨v, ρ, F, a, e, g, d, r, re, ρ', hb, kk⟩ := q
  cases v <;> first | (cases hb; done) | skip
  obtain ⟨p, vs, rfl, q1, l, rs⟩ := r.tupR
  have hb' : bAll bs _ ρ = some ρ' := hb
  refine ⟨p, vs, rfl, by rw [hK]; exact q1, by rw [rs.len, bAll_len hb'], _, ρ, F, a, e, g, d, rs, re, ρ', hb', kk⟩
/-- a, b = e -/
theorem ss_setT {e : Expr} {f : EF} (h : SE X c W e f) (hg : SG c fx X tg b) (hs : swapsWithSole [tg] e pos.line X.env = pure false := by rfl) (hw : swappedStores [tg] e X.env = pure none := by rfl)
    (h1 : (assignEach [tg] X.env).map (·.2) = [assign tg X.env] := by rfl) : SS c W fx X (.Assign [tg] e pos) (sSetT b f) := by
  refine PS.weak (ps_asg h hg hs hw h1) fun D σ H q => ?_
  refine tS.expr (rel := relE c) q fun v x ρ1 H1 F1 a e g d r re p => ?_
  cases hb : b v ρ1 with
  | none => simp only [hb] at p; exact p.elim
  | some ρ2 =>
    simp only [hb] at p
    exact ⟨v, ρ1, F1, a, e, g, d, r, re, ρ2, hb, fun σ' H' F' e' t g' r' k => p σ' H' F' e' t g' r' k⟩
end
/-! ### what is walked -/
structure Src (c : RC) (J : It) (P : Hp → AS → Prop) (t : AS) (xs : List PV) : Prop where
  len : xs.length ≤ big
  go : ∀ i H F, P H F → i < xs.length → J.go i H
  stop : ∀ H F, P H F → J.stop xs.length H
  yld : ∀ i H F x H' z, P H F → Good H F Emp → J.yld i H x H' → xs[i]? = some z → Stp H F Emp H' F Emp ∧ R c H' F z x Emp
  step : ∀ H F A H' F' A', P H F → Good H F A → Stp H F A H' F' A' → Dis t A → P H' F'
section
variable {c : RC} {W : WX} {fx fx' : Nat → Bool} {b : BF} {s : SF}
theorem Keep.of {σ σ' : L2.St} (h : Keep fx' σ σ') (l : ∀ i, fx i = true → fx' i = true) : Keep fx σ σ' := ⟨fun i z => h.at_ i (l i z), h.len⟩
/-- the turns of a for; gv: what is done with the slots at the end -/
theorem loop_ok {J : It} {P : Hp → AS → Prop} {t : AS} {xs : List PV} {gv : Env → Env} {D : Ends} {σ0 : L2.St} (S : Src c J P t xs) (le : ∀ i, fx i = true → fx' i = true)
    (hgv : ∀ {σ : L2.St} {H : Hp} {F e : AS} {ρ : Env}, P H F → Good H F (Uni t e) → Dis t e → RE c H F ρ σ e → Keep fx' σ0 σ → RE c H F (gv ρ) σ (Uni t e))
    {σ : L2.St} {H : Hp} {F e : AS} {ρ : Env} (p0 : P H F) (g0 : Good H F (Uni t e)) (d0 : Dis t e) (e0 : RE c H F ρ σ e) (k0 : Keep fx' σ0 σ) (q0 : PostS c W fx σ H F (Uni t e) (after (loop b s xs ρ) gv) D) :
    ∃ Wv : Nat → Nat → L2.St → Hp → Prop, (∃ m, Wv 0 m σ H) ∧ ∀ i m σ H, Wv i m σ H →
      (J.stop i H ∧ D.nx σ H) ∨ (J.go i H ∧ ∃ N : L2.St → Hp → Prop, (∀ σ' H', N σ' H' → ∃ m', m' < m ∧ Wv (i + 1) m' σ' H') ∧ ∀ x H', J.yld i H x H' → tGt c fx' b x σ H' fun σ2 H2 => tS c W fx' s { D with nx := N, ct := N, bk := D.nx } σ2 H2) := by
  refine ⟨fun i m σ H => m = xs.length - i ∧ i ≤ xs.length ∧ ∃ ρ F e, P H F ∧ Good H F (Uni t e) ∧ Dis t e ∧ RE c H F ρ σ e ∧ Keep fx' σ0 σ ∧ PostS c W fx σ H F (Uni t e) (after (loop b s (xs.drop i) ρ) gv) D,
    ⟨xs.length, rfl, Nat.zero_le _, ρ, F, e, p0, g0, d0, e0, k0, q0⟩, ?_⟩
  rintro i m σ H ⟨rfl, hi, ρ, F, e, p, g, d, re, kp, q⟩
  by_cases hlt : i < xs.length
  · have hd : xs.drop i = xs[i] :: xs.drop (i + 1) := List.drop_eq_getElem_cons hlt
    rw [hd, loop] at q
    refine .inr ⟨S.go i H F p hlt, fun σ' H' => ∃ ρ F e, P H' F ∧ Good H' F (Uni t e) ∧ Dis t e ∧ RE c H' F ρ σ' e ∧ Keep fx' σ0 σ' ∧ PostS c W fx σ' H' F (Uni t e) (after (loop b s (xs.drop (i + 1)) ρ) gv) D,
      fun σ' H' h => ⟨xs.length - (i + 1), by omega, rfl, hlt, h⟩, fun x H1 y => ?_⟩
    obtain ⟨s1, rx⟩ := S.yld i H F x H1 xs[i] p (g.sub Sub.emp) y (List.getElem?_eq_getElem hlt)
    cases hb : b xs[i] ρ with
    | none => simp only [hb, after] at q; exact q.elim
    | some ρ1 =>
      simp only [hb] at q
      have gE : Good H F Emp := g.sub Sub.emp
      have g1E : Good H1 F Emp := ⟨fun _ z => z.elim, fun q z => by
        obtain ⟨o, eo⟩ := g.fro q z
        exact ⟨o, s1.keep q o eo id⟩⟩
      have g1 : Good H1 F (Uni t e) := g.kept s1 g1E Dis.empr
      have p1 : P H1 F := S.step _ _ _ _ _ _ p gE s1 Dis.empr
      have re1 := re.step gE s1 Dis.empr
      refine ⟨xs[i], ρ, F, Emp, e, g1.sub (Sub.uni Sub.emp Sub.r), Dis.empl, rx, re1, ρ1, hb, fun σ2 H2 F2 e2 t2 g2 r2 k2 => ?_⟩
      have dte : Dis t (Uni Emp e) := fun q y z => z.elim (fun z => z) (d q y)
      have gt : Good H1 F t := g1.sub Sub.l
      have gt2 := gt.kept t2 g2 dte
      have d2 := t2.apart gt dte
      have p2 : P H2 F2 := S.step _ _ _ _ _ _ p1 (g1.sub (Sub.uni Sub.emp Sub.r)) t2 dte
      have big : Stp H F (Uni t e) H2 F2 (Uni t e2) := by
        have a1 := ((s1.frame (B := Uni t e)).more (Sub.uni (Sub.refl _) Sub.emp)).drop (B := Uni t (Uni Emp e)) (Sub.uni (Sub.l.trans Sub.l) (Sub.uni Sub.emp (Sub.r.trans Sub.l)))
        exact a1.trans t2.frame
      have q2 := q.base big (k2.of le)
      have k02 := kp.trans k2
      refine ⟨ρ1, F2, e2, g2, r2, ?_⟩
      have stay : ∀ {σ3 : L2.St} {H3 : Hp} {F3 e3 : AS}, Stp H2 F2 e2 H3 F3 e3 → Good H3 F3 e3 → Keep fx' σ2 σ3 → P H3 F3 ∧ Good H3 F3 (Uni t e3) ∧ Dis t e3 ∧ Stp H2 F2 (Uni t e2) H3 F3 (Uni t e3) ∧ Keep fx' σ0 σ3 := fun t3 g3 k3 =>
        ⟨S.step _ _ _ _ _ _ p2 g2 t3 d2, (gt2.kept t3 g3 d2).uni g3, t3.apart gt2 d2, t3.frame, k02.trans k3⟩
      cases hs : s ρ1 with
      | bad => simp only [hs, after] at q2; exact q2.elim
      | nx ρ3 =>
        simp only [hs] at q2
        intro σ3 H3 F3 e3 t3 g3 r3 k3
        obtain ⟨a1, a2, a3, a4, a5⟩ := stay t3 g3 k3
        exact ⟨ρ3, F3, e3, a1, a2, a3, r3, a5, q2.base a4 (k3.of le)⟩
      | ct ρ3 =>
        simp only [hs] at q2
        intro σ3 H3 F3 e3 t3 g3 r3 k3
        obtain ⟨a1, a2, a3, a4, a5⟩ := stay t3 g3 k3
        exact ⟨ρ3, F3, e3, a1, a2, a3, r3, a5, q2.base a4 (k3.of le)⟩
      | bk ρ3 =>
        simp only [hs, after] at q2
        intro σ3 H3 F3 e3 t3 g3 r3 k3
        obtain ⟨a1, a2, a3, a4, a5⟩ := stay t3 g3 k3
        exact q2 σ3 H3 F3 (Uni t e3) a4 a2 (hgv a1 a2 a3 r3 a5) (k3.of le)
      | rt v ρ3 =>
        simp only [hs, after] at q2
        intro x3 σ3 H3 F3 a e3 t3 g3 dd rv r3 k3
        obtain ⟨a1, a2, a3, a4, a5⟩ := stay t3 g3 k3
        refine q2 x3 σ3 H3 F3 a (Uni t e3) (a4.drop ?_) (a2.sub ?_) ?_ rv (hgv a1 (a2.sub ?_) (fun q y z => a3 q y (.inr z)) r3 a5) (k3.of le)
        · exact Sub.uni (Sub.l.trans Sub.r) (Sub.uni Sub.l (Sub.r.trans Sub.r))
        · exact Sub.uni (Sub.l.trans Sub.r) (Sub.uni Sub.l (Sub.r.trans Sub.r))
        · exact fun q y z => z.elim (fun z => a3 q z (.inl y)) (dd q y)
        · exact Sub.uni Sub.l (Sub.r.trans Sub.r)
      | er x ρ3 =>
        simp only [hs, after] at q2
        intro cls dd σ3 H3 F3 e3 t3 g3 rx r3 k3
        obtain ⟨a1, a2, a3, a4, a5⟩ := stay t3 g3 k3
        exact q2 cls dd σ3 H3 F3 (Uni t e3) a4 a2 rx (hgv a1 a2 a3 r3 a5) (k3.of le)
  · have ei : i = xs.length := by omega
    subst ei
    rw [List.drop_length, loop] at q
    exact .inl ⟨S.stop H F p, q σ H F (Uni t e) Stp.refl g (hgv p g d re kp) Keep.refl⟩
end
/-! ### sources -/
section
variable {X : Cx} {c : RC} {W : WX} {fx : Nat → Bool} {tg it : Expr} {b : BF} {s : SF} {pos : Pos} {body : List Stmt} {f : EF} {w : IF}
def relS (c : RC) : Hp → AS → List PV → It → AS → Prop := fun H F xs J _ => ∃ P : Hp → AS → Prop, P H F ∧ Src c J P Emp xs
def SI (X : Cx) (c : RC) (W : WX) (tg it : Expr) (w : IF) : Prop := PI X tg it (tG c W (relS c) w)
theorem PI.weak {t t' : TI} (h : PI X tg it t) (k : ∀ σ H Q, t' σ H Q → t σ H Q) : PI X tg it t' := ⟨fun pins s σ H R I q => h.run pins s σ H R I (k σ H R q)⟩
theorem PI.or {t t' : TI} (h : PI X tg it t) (h' : PI X tg it t') : PI X tg it (fun σ H Q => t σ H Q ∨ t' σ H Q) := ⟨fun pins s σ H R I q => q.elim (h.run pins s σ H R I) (h'.run pins s σ H R I)⟩
theorem Rs.getV {H : Hp} {F : AS} {xs : List PV} {vs : List V} {i : Nat} {z : PV} {x : V} (r : Rs c H F xs vs Emp) (h : xs[i]? = some z) (hx : vs[i]? = some x) : R c H F z x Emp := by
  obtain ⟨v, b, h1, h2, h3⟩ := r.get h
  rw [h1] at hx; cases hx
  exact R.mono h3 h2
theorem src_list {p : Addr} {xs : List PV} {vs : List V} (l : xs.length ≤ big) : Src c (Itl c.K p) (fun H F => FzL H F p vs ∧ Rs c H F xs vs Emp) Emp xs where
  len := l
  go := fun i H F h l => ⟨vs, vs[i]'(by rw [h.2.len]; exact l), .inl h.1.1, List.getElem?_eq_getElem _⟩
  stop := fun H F h => ⟨vs, .inl h.1.1, by rw [h.2.len]; exact Nat.le_refl _⟩
  yld := fun i H F x H' z h g y e => by
    obtain ⟨rfl, y⟩ := y
    exact ⟨Stp.refl, h.2.getV e (y vs (.inl h.1.1))⟩
  step := fun H F A H' F' A' h g s d => ⟨h.1.step g s, h.2.step g s Dis.empl⟩
theorem src_tup {p : Addr} {xs : List PV} {vs : List V} (l : xs.length ≤ big) : Src c (Itt c.K p) (fun H F => SqT c.K H p vs ∧ Rs c H F xs vs Emp) Emp xs where
  len := l
  go := fun i H F h l => ⟨vs, vs[i]'(by rw [h.2.len]; exact l), h.1, List.getElem?_eq_getElem _⟩
  stop := fun H F h => ⟨vs, h.1, by rw [h.2.len]; exact Nat.le_refl _⟩
  yld := fun i H F x H' z h g y e => by
    obtain ⟨rfl, y⟩ := y
    exact ⟨Stp.refl, h.2.getV e (y vs h.1)⟩
  step := fun H F A H' F' A' h g s d => ⟨SqT.step g s h.1, h.2.step g s Dis.empl⟩
theorem src_range {lo : Int} {n : Nat} (l : n ≤ big) : Src c (Itr lo n) (fun _ _ => True) Emp ((List.range n).map fun i => .int (lo + (i : Nat))) where
  len := by rw [List.length_map, List.length_range]; exact l
  go := fun i H F _ l => by rw [List.length_map, List.length_range] at l; exact l
  stop := fun H F _ => by rw [List.length_map, List.length_range]; exact Nat.le_refl _
  yld := fun i H F x H' z _ g y e => by
    obtain ⟨rfl, rfl⟩ := y
    rw [List.getElem?_map] at e
    cases q : (List.range n)[i]? with
    | none => rw [q] at e; cases e
    | some j =>
      rw [q] at e; cases e
      have : j = i := by
        obtain ⟨h1, h2⟩ := List.getElem?_eq_some_iff.mp q
        rw [List.getElem_range] at h2
        exact h2.symm
      subst this
      exact ⟨Stp.refl, rfl⟩
  step := fun _ _ _ _ _ _ _ _ _ _ => trivial
/-- a list or a tuple, which is frozen -/
theorem si_e (hK : X.K = c.K) (h : SE X c W it f) : SI X c W tg it (iE f) := by
  refine PI.weak (PI.or (pi_list (tg := tg) h) (pi_tup (tg := tg) h)) fun σ H Q q => ?_
  obtain ⟨ρ, F, A, g, e, p⟩ := q
  unfold iE at p
  cases q : f ρ with
  | bad => simp only [q] at p; exact p.elim
  | er x ρ1 =>
    simp only [q] at p
    refine .inl ⟨ρ, F, A, g, e, ?_⟩
    rw [q]; exact p
  | ok v ρ1 =>
    simp only [q, Res.bind_ok] at p
    have fin : ∀ {x : V} {H1 : Hp} {F1 a b : AS} {J : It} {P : Hp → AS → Prop} {xs : List PV}, items (frz v) = some xs → Stp H F A H1 F1 (Uni a b) → Good H1 F1 (Uni a b) → Dis a b → R c H1 F1 v x a → RE c H1 F1 ρ1 σ b → (R c H1 (Uni F1 a) (frz v) x Emp → P H1 (Uni F1 a)) → Src c J P Emp xs → Q J H1 := by
      intro x H1 F1 a b J P xs hi s g1 d r e1 hp S
      rw [hi] at p
      have st : Sub (Uni Emp b) (fun q => Uni a b q ∧ ¬ a q) := Sub.uni Sub.emp fun q y => ⟨.inr y, fun z => d q z y⟩
      exact p J H1 (Uni F1 a) Emp b (s.trans ((Stp.freeze Sub.l).drop st)) ((g1.freeze Sub.l).sub st) Dis.empl ⟨P, hp (R.frz (R.up Sub.l r) fun _ z => .inr z), S⟩ (e1.up Sub.l)
    cases v with
    | lst w' xs =>
      refine .inl ⟨ρ, F, A, g, e, ?_⟩
      rw [q]
      intro x H1 F1 a b s g1 d r e1
      obtain ⟨pp, vs, bb, rfl, q1, l, _, rs⟩ := r.lstR
      rw [hK]
      refine ⟨pp, rfl, ⟨vs, .inl q1⟩, ?_⟩
      exact fin (P := fun H F => FzL H F pp vs ∧ Rs c H F (frzs xs) vs Emp) (by rw [frz]; rfl) s g1 d r e1 (fun rr => by
        rw [frz] at rr
        obtain ⟨p2, vs2, e2, ⟨q2, _⟩, rs2⟩ := rr
        cases e2
        rcases q1 with q1 | ⟨o, q1⟩
        · rcases q2.1 with q3 | ⟨o', q3⟩
          · rw [q1] at q3; cases q3; exact ⟨q2, rs2⟩
          · rw [q1] at q3; cases q3
        · rcases q2.1 with q3 | ⟨o', q3⟩
          · rw [q1] at q3; cases q3
          · rw [q1] at q3; cases q3; exact ⟨q2, rs2⟩) (src_list (by rw [frzs_eq, List.length_map]; exact l))
    | tup xs =>
      refine .inr ⟨ρ, F, A, g, e, ?_⟩
      rw [q]
      intro x H1 F1 a b s g1 d r e1
      obtain ⟨pp, vs, rfl, q1, l, rs⟩ := r.tupR
      rw [hK]
      refine ⟨pp, rfl, ⟨vs, q1⟩, ?_⟩
      exact fin (P := fun H F => SqT c.K H pp vs ∧ Rs c H F (frzs xs) vs Emp) (by rw [frz]; rfl) s g1 d r e1 (fun _ => ⟨q1, Rs.frz (rs.up Sub.l) fun _ z => .inr z⟩) (src_tup (by rw [frzs_eq, List.length_map]; exact l))
    | _ => simp only [frz, items, Res.of_none] at p; exact p.elim
theorem si_range1 {a : Expr} {p : Pos} (hg : Gl X "range") (hm : X.mg "range" = none) (h : SE X c W a f) (hs : starEach [a] X.env = [(false, eval a X.env)] := by rfl) (st : starEach [a] X.env = (false, eval a X.env) :: starEach [] X.env := by rfl) : SI X c W tg (.Call (.Name "range" p) [a] [] pos) (iRange1 f) := by
  refine PI.weak (pi_range1 hg hm (pa_cons h pa_nil st) hs) fun σ H Q q => ?_
  refine tG.bind (rel := relE c) q fun v x ρ1 H1 F1 a b g d r e p => ?_
  cases v with
  | int n =>
    simp only at p
    split at p
    · rename_i hb
      simp only [Bool.and_eq_true, decide_eq_true_eq] at hb
      have S := src_range (c := c) (lo := 0) (n := n.toNat) hb.2
      simp only [Int.zero_add] at S
      exact ⟨n, by rw [show x = V.int n from r], hb.1.1, hb.1.2, p.now g Sub.r ⟨_, trivial, S⟩ e⟩
    · exact p.elim
  | _ => exact p.elim
/-- for target in ..: body -/
theorem ss_for {k : Nat} (D : Dk X c W k) (hi : SI X c W tg it w) (hg : SG c fx X tg b) (hb : SSs c W fx X body s) (hs : ∀ x, foldedSetIterable it X.env x = pure x := by intro _; rfl) : SS c W fx X (.For tg it body [] pos) (sFor w b s) := by
  refine PS.weak (ps_for D.po D.calm hi hg hb hs) fun D σ H q => ?_
  refine tS.expr (rel := relS c) q fun xs J ρ1 H1 F1 a e g d r re p => ?_
  obtain ⟨P, hp, S⟩ := r
  have p' : PostS c W fx σ H1 F1 (Uni Emp e) (after (loop b s xs ρ1) id) D := by
    have h := p.sub (show Sub (Uni Emp e) (Uni a e) from Sub.uni Sub.emp Sub.r)
    have ea : ∀ r, after r id = r := fun r => by cases r <;> rfl
    rw [ea]; exact h
  exact loop_ok (fx := fx) (fx' := fx) (gv := id) S (fun _ h => h) (fun _ _ _ re _ => re.mono Sub.r) hp (g.sub (Sub.uni Sub.emp Sub.r)) Dis.empl re Keep.refl p'
/-- over a list that stands in a slot; the slot isn't asked for within -/
theorem ss_forN {k i : Nat} {fx' : Nat → Bool} (D : Dk X c W k) (hv : PE X it (tVar i)) (le : ∀ j, fx j = true → fx' j = true) (hfi : fx' i = true) (hg : SG c fx' X tg b) (hb : SSs c W fx' X body s) (hs : ∀ x, foldedSetIterable it X.env x = pure x := by intro _; rfl) : SS c W fx X (.For tg it body [] pos) (sForN i b s) := by
  have hK := D.K
  refine PS.weak (ps_for D.po D.calm (PI.or (pi_list (tg := tg) hv) (pi_tup (tg := tg) hv)) hg hb hs) fun D σ H q => ?_
  obtain ⟨ρ, F, A, g, e, p⟩ := q
  unfold sForN at p
  cases q : slot ρ i with
  | none => simp only [q] at p; exact p.elim
  | some v =>
    simp only [q] at p
    cases qi : items v with
    | none => simp only [qi] at p; exact p.elim
    | some xs =>
      simp only [qi] at p
      split at p
      · rename_i f
        obtain ⟨x, a, d, h1, h2, h3, h4, h5, h6⟩ := e.take q
        have give : ∀ {P : Hp → AS → Prop}, (∀ H F, P H F → R c H F v x a) → ∀ {σ' : L2.St} {H : Hp} {F e : AS} {ρ : Env}, P H F → Good H F (Uni a e) → Dis a e → RE c H F ρ σ' e → Keep fx' σ σ' → RE c H F (ρ.set i (some v)) σ' (Uni a e) := by
          intro P hP σ' H F e ρ hp g dd re kp
          have hx : σ'[i]? = some (some x) := by rw [kp.at_ i hfi]; exact h1
          have := RE.put (re.wipe i) hx (hP _ _ hp) dd
          rwa [List.set_set] at this
        have g2 : Good H F (Uni a d) := g.sub (Sub.uni h2 h3)
        have p2 := p.sub (Sub.uni h2 h3)
        cases v with
        | lst w xs' =>
          cases qi
          obtain ⟨pp, vs, bb, rfl, q1, l, _, rs⟩ := h5.lstR
          have rsE := rs.emp f
          refine .inl ⟨.ref pp, h1, pp, rfl, ⟨vs, by rw [hK]; exact .inl q1⟩, ?_⟩
          rw [hK]
          refine loop_ok (P := fun H F => R c H F (.lst w xs) (.ref pp) a ∧ Rd H pp (.lst vs) ∧ Rs c H F xs vs Emp) (t := a) (gv := fun ρ' => ρ'.set i (some (.lst w xs))) ⟨l, ?_, ?_, ?_, ?_⟩ le (give fun H F (h : R c H F (.lst w xs) (.ref pp) a ∧ Rd H pp (.lst vs) ∧ Rs c H F xs vs Emp) => h.1) ⟨h5, q1, rsE⟩ g2 h4 h6 Keep.refl p2
          · exact fun i H F h l => ⟨vs, vs[i]'(by rw [h.2.2.len]; exact l), .inl h.2.1, List.getElem?_eq_getElem _⟩
          · exact fun H F h => ⟨vs, .inl h.2.1, by rw [h.2.2.len]; exact Nat.le_refl _⟩
          · rintro i H F x H' z h g ⟨rfl, y⟩ e
            exact ⟨Stp.refl, h.2.2.getV e (y vs (.inl h.2.1))⟩
          · intro H F A H' F' A' h g s dd
            have r' := R.step g s h.1 dd
            refine ⟨r', ?_, h.2.2.step g s Dis.empl⟩
            obtain ⟨p2, vs2, b2, e2, q2, _, _, rs2⟩ := h.1.lstR
            cases e2
            cases w with
            | true =>
              obtain ⟨p3, vs3, a3, e3, l3, q3, m3, _⟩ := h.1
              cases e3
              have : Rd H pp (.lst vs3) := .inl q3
              rcases h.2.1 with z | ⟨o, z⟩
              · exact .inl (s.keep _ _ z fun y => dd _ m3 y)
              · rw [q3] at z; cases z
            | false =>
              obtain ⟨p3, vs3, e3, ⟨q3, _⟩, _⟩ := h.1
              cases e3
              rcases h.2.1 with z | ⟨o, z⟩
              · exact .inl (s.keep _ _ z fun y => (g.own _ y).1 q3.2)
              · exact .inr ⟨o, s.keep _ _ z fun y => (g.own _ y).1 q3.2⟩
        | tup xs' =>
          cases qi
          obtain ⟨pp, vs, rfl, q1, l, rs⟩ := h5.tupR
          have rsE := rs.emp f
          refine .inr ⟨.ref pp, h1, pp, rfl, ⟨vs, by rw [hK]; exact q1⟩, ?_⟩
          rw [hK]
          refine loop_ok (P := fun H F => R c H F (.tup xs) (.ref pp) a ∧ SqT c.K H pp vs ∧ Rs c H F xs vs Emp) (t := a) (gv := fun ρ' => ρ'.set i (some (.tup xs))) ⟨l, ?_, ?_, ?_, ?_⟩ le (give fun H F (h : R c H F (.tup xs) (.ref pp) a ∧ SqT c.K H pp vs ∧ Rs c H F xs vs Emp) => h.1) ⟨h5, q1, rsE⟩ g2 h4 h6 Keep.refl p2
          · exact fun i H F h l => ⟨vs, vs[i]'(by rw [h.2.2.len]; exact l), h.2.1, List.getElem?_eq_getElem _⟩
          · exact fun H F h => ⟨vs, h.2.1, by rw [h.2.2.len]; exact Nat.le_refl _⟩
          · rintro i H F x H' z h g ⟨rfl, y⟩ e
            exact ⟨Stp.refl, h.2.2.getV e (y vs h.2.1)⟩
          · exact fun H F A H' F' A' h g s dd => ⟨R.step g s h.1 dd, SqT.step g s h.2.1, h.2.2.step g s Dis.empl⟩
        | _ => cases qi
      · exact p.elim
end
end Tr
set_option Elab.async false
set_option linter.all false
set_option maxRecDepth 100000
set_option maxHeartbeats 4000000
/-! Tr.K: list comprehensions. -/
namespace Tr
open PySem PySem.Spec L2
section
variable {c : RC} {H H' : Hp} {F A : AS}
/-- an owned node is written -/
theorem Stp.put {p : Addr} {o : HO} (h : A p) : Stp H F A (upd H p o) F A := by
  refine ⟨fun q u e n => ?_, fun q e => ?_, fun _ h => h, fun _ h => .inl h, fun _ h => .inr h⟩
  · have : q ≠ p := fun z => n (by rw [z]; exact h)
    rw [upd_ne this]; exact e
  · by_cases z : q = p
    · subst z; rw [upd_same] at e; cases e
    · rw [upd_ne z] at e; exact e
theorem Good.put {p : Addr} {o : HO} (g : Good H F A) (h : A p) (m : Mu o) : Good (upd H p o) F A := by
  refine ⟨fun q y => ?_, fun q y => ?_⟩
  · obtain ⟨n, u, e, mu⟩ := g.own q y
    by_cases z : q = p
    · subst z; exact ⟨n, o, upd_same, m⟩
    · exact ⟨n, u, by rw [upd_ne z]; exact e, mu⟩
  · obtain ⟨u, e⟩ := g.fro q y
    by_cases z : q = p
    · subst z; exact ⟨o, upd_same⟩
    · exact ⟨u, by rw [upd_ne z]; exact e⟩
end
/-! ### the block's slots -/
def fxOwn (own : List Nat) : Nat → Bool := fun i => !own.contains i
theorem wipe_at (σ : L2.St) : ∀ (own : List Nat) (i : Nat), (L2.wipe σ own)[i]? = if i ∈ own ∧ i < σ.length then some none else σ[i]?
  | [], i => by simp [L2.wipe]
  | v :: vs, i => by
    rw [L2.wipe]
    by_cases h : v = i
    · subst h
      by_cases l : v < σ.length
      · rw [List.getElem?_set_self (by rw [wipe_length]; exact l), if_pos ⟨List.mem_cons_self, l⟩]
      · rw [List.getElem?_eq_none (by rw [List.length_set, wipe_length]; omega), if_neg (fun z => l z.2), List.getElem?_eq_none (by omega)]
    · rw [List.getElem?_set_ne h, wipe_at σ vs i]
      have : (i ∈ v :: vs) = (i ∈ vs) := by
        rw [List.mem_cons]
        exact propext ⟨fun z => z.resolve_left fun e => h e.symm, .inr⟩
      simp only [this]
theorem wipe_keep {own : List Nat} {σ σ2 : L2.St} (k : Keep (fxOwn own) σ σ2) : L2.wipe σ2 own = L2.wipe σ own := by
  refine List.ext_getElem? fun i => ?_
  rw [wipe_at, wipe_at, k.len]
  by_cases h : i ∈ own
  · by_cases l : i < σ.length
    · rw [if_pos ⟨h, l⟩, if_pos ⟨h, l⟩]
    · rw [if_neg (fun z => l z.2), if_neg (fun z => l z.2), List.getElem?_eq_none (by rw [k.len]; omega), List.getElem?_eq_none (by omega)]
  · rw [if_neg (fun z => h z.1), if_neg (fun z => h z.1)]
    exact k.at_ i (by unfold fxOwn; simp [h])
theorem wipe_wipe (own : List Nat) (σ : L2.St) : L2.wipe (L2.wipe σ own) own = L2.wipe σ own := by
  refine List.ext_getElem? fun i => ?_
  rw [wipe_at, wipe_at, wipe_length]
  by_cases h : i ∈ own ∧ i < σ.length
  · rw [if_pos h, if_pos h]
  · rw [if_neg h]
section
variable {c : RC} {H H' : Hp} {F A : AS}
theorem RE.wipeσ : ∀ {ρ : Env} {σ : L2.St} {a : AS} (i : Nat), RE c H F (ρ.set i none) σ a → RE c H F (ρ.set i none) (σ.set i none) a
  | [], σ, a, i, h => by rw [show σ = [] from h]; rfl
  | o :: ρ, σ, a, 0, h => by
    obtain ⟨s, σ', e, h⟩ := h
    subst e
    exact ⟨none, σ', rfl, h⟩
  | none :: ρ, σ, a, i + 1, h => by
    obtain ⟨s, σ', e, h⟩ := h
    subst e
    exact ⟨s, _, rfl, RE.wipeσ i h⟩
  | some x :: ρ, σ, a, i + 1, h => by
    obtain ⟨v, σ', b, d, e, s1, s2, k, r, h⟩ := h
    subst e
    exact ⟨v, _, b, d, rfl, s1, s2, k, r, RE.wipeσ i h⟩
theorem RE.wipes : ∀ {ρ : Env} {σ : L2.St} {a : AS} (own : List Nat), RE c H F ρ σ a → RE c H F (wipeE own ρ) (L2.wipe σ own) a
  | _, _, _, [], h => h
  | ρ, σ, a, i :: is, h => RE.wipeσ i ((RE.wipes is h).wipe i)
/-- what σ holds in the block's slots does not matter where they are empty -/
theorem RE.unwipe1 : ∀ {ρ : Env} {σ σ' : L2.St} {a : AS} (i : Nat), RE c H F (ρ.set i none) σ a → σ.length = σ'.length → (∀ j, j ≠ i → σ[j]? = σ'[j]?) → RE c H F (ρ.set i none) σ' a
  | [], σ, σ', a, i, h, l, k => by
    rw [show σ = [] from h] at l
    exact (List.eq_nil_of_length_eq_zero l.symm)
  | o :: ρ, σ, σ', a, 0, h, l, k => by
    obtain ⟨s, σ1, e, h⟩ := h
    subst e
    cases σ' with
    | nil => cases l
    | cons s' σ2 =>
      have : σ1 = σ2 := List.ext_getElem? fun j => by simpa using k (j + 1) (by omega)
      subst this
      exact ⟨s', σ1, rfl, h⟩
  | none :: ρ, σ, σ', a, i + 1, h, l, k => by
    obtain ⟨s, σ1, e, h⟩ := h
    subst e
    cases σ' with
    | nil => cases l
    | cons s' σ2 =>
      exact ⟨s', σ2, rfl, RE.unwipe1 i h (by simpa using l) fun j hj => by simpa using k (j + 1) (by omega)⟩
  | some x :: ρ, σ, σ', a, i + 1, h, l, k => by
    obtain ⟨v, σ1, b, d, e, s1, s2, kk, r, h⟩ := h
    subst e
    cases σ' with
    | nil => cases l
    | cons s' σ2 =>
      have e0 : some v = s' := by simpa using k 0 (by omega)
      subst e0
      exact ⟨v, σ2, b, d, rfl, s1, s2, kk, r, RE.unwipe1 i h (by simpa using l) fun j hj => by simpa using k (j + 1) (by omega)⟩
theorem wipeE_none : ∀ (own : List Nat) (ρ : Env) (i : Nat), i ∈ own → slot (wipeE own ρ) i = none
  | v :: vs, ρ, i, h => by
    rw [wipeE]
    unfold slot
    by_cases e : v = i
    · subst e
      by_cases l : v < (wipeE vs ρ).length
      · rw [List.getElem?_set_self l]; rfl
      · rw [List.getElem?_eq_none (by rw [List.length_set]; omega)]; rfl
    · rw [List.getElem?_set_ne e]
      have := wipeE_none vs ρ i (List.mem_of_ne_of_mem (fun z => e z.symm) h)
      unfold slot at this
      exact this
theorem RE.unwipe : ∀ {ρ : Env} {σ : L2.St} {a : AS} (own : List Nat), RE c H F (wipeE own ρ) (L2.wipe σ own) a → RE c H F (wipeE own ρ) σ a := by
  intro ρ σ a own
  -- one slot after another
  have go : ∀ (pre : List Nat) (σ' : L2.St), (∀ i ∈ pre, i ∈ own) → RE c H F (wipeE own ρ) (L2.wipe σ' pre) a → RE c H F (wipeE own ρ) σ' a := by
    intro pre
    induction pre with
    | nil => intro σ' _ h; exact h
    | cons i is ih =>
      intro σ' hm h
      refine ih σ' (fun j hj => hm j (List.mem_cons_of_mem _ hj)) ?_
      have es : (wipeE own ρ).set i none = wipeE own ρ := by
        refine List.ext_getElem? fun j => ?_
        by_cases e : i = j
        · subst e
          by_cases l : i < (wipeE own ρ).length
          · rw [List.getElem?_set_self l]
            have := wipeE_none own ρ i (hm i List.mem_cons_self)
            unfold slot at this
            rw [List.getElem?_eq_getElem l] at this ⊢
            simp only [Option.join_some] at this
            rw [this]
          · rw [List.getElem?_eq_none (by rw [List.length_set]; omega), List.getElem?_eq_none (by omega)]
        · rw [List.getElem?_set_ne e]
      rw [L2.wipe] at h
      rw [← es] at h ⊢
      refine RE.unwipe1 i h (by rw [List.length_set]) fun j hj => ?_
      rw [List.getElem?_set_ne (fun z => hj z.symm)]
  exact go own σ fun _ h => h
theorem RE.restore {σ : L2.St} {ρ0 : Env} (hr : ∀ i v, slot ρ0 i = some v → fro v = true → ∃ x, σ[i]? = some (some x) ∧ R c H F v x Emp) : ∀ {own : List Nat} {ρ : Env} {a : AS}, RE c H F ρ σ a → RE c H F (Tr.restore own ρ0 ρ) σ a
  | [], _, _, h => h
  | i :: is, ρ, a, h => by
    rw [Tr.restore]
    have ih := RE.restore hr (own := is) h
    cases q : slot ρ0 i with
    | none => simp only; exact ih
    | some v =>
      simp only
      split
      · rename_i f
        obtain ⟨x, e, r⟩ := hr i v q f
        have := RE.put (ih.wipe i) e r Dis.empl
        rw [List.set_set] at this
        exact this.mono (Sub.uni Sub.emp (Sub.refl _))
      · exact ih
end
section
variable {α β ν μ : Type} {c : RC} {W : WX} {rel : Hp → AS → α → ν → AS → Prop} {rel' : Hp → AS → β → μ → AS → Prop} {σ σ0 : L2.St} {H : Hp} {F A : AS}
/-- within a block: no exception; what follows is told at the slots σ0 -/
theorem tG.nextB {W' : WX} {f : Env → Res α} {g : α → Env → Res β} {Q : μ → Hp → Prop} {K : ν → Hp → Prop} {ρ : Env} {t b : AS}
    (gd : Good H F A) (st : Sub t A) (sb : Sub b A) (d : Dis t b) (e : RE c H F ρ σ b) (p : Post c W rel' σ0 H F A ((f ρ).bindB g) Q)
    (k : ∀ v x ρ1 H1 F1 a1 b1, Good H1 F1 (Uni t (Uni a1 b1)) → Dis t (Uni a1 b1) → Dis a1 b1 → rel H1 F1 v x a1 → RE c H1 F1 ρ1 σ b1 → Stp H F b H1 F1 (Uni a1 b1) →
      Post c W rel' σ0 H1 F1 (Uni t (Uni a1 b1)) (g v ρ1) Q → K x H1) : tG c W' rel f σ H K := by
  refine ⟨ρ, F, b, gd.sub sb, e, ?_⟩
  cases q : f ρ with
  | ok v ρ1 =>
    rw [q] at p
    intro x H1 F1 a1 b1 s g1 d1 r e1
    exact k v x ρ1 H1 F1 a1 b1 (((gd.sub st).kept s g1 d).uni g1) (s.apart (gd.sub st) d) d1 r e1 s (Post.base p ((s.frame (B := t)).more (Sub.uni st sb)))
  | er x ρ1 => rw [q] at p; exact p.elim
  | bad => rw [q] at p; exact p.elim
end
section
variable {c : RC} {W : WX} {b : BF} {tst : TF} {f : EF} {own : List Nat}
theorem comp_ok {J : It} {P : Hp → AS → Prop} {t : AS} {xs : List PV} {gv : Env → Env} {σ : L2.St} {Q : VK} (S : Src c J P t xs)
    (hgv : ∀ {H : Hp} {F e : AS} {ρ : Env}, P H F → Good H F (Uni t e) → Dis t e → RE c H F ρ (L2.wipe σ own) e → (∀ i ∈ own, slot ρ i = none) → RE c H F (gv ρ) σ (Uni t e))
    {H : Hp} {F e : AS} {ρ : Env} (p0 : P H F) (g0 : Good H F (Uni t e)) (d0 : Dis t e) (e0 : RE c H F ρ (L2.wipe σ own) e) (o0 : ∀ i ∈ own, slot ρ i = none)
    (q0 : Post c W (relE c) σ H F (Uni t e) ((compL own b tst f xs ρ).bindB fun vs ρ2 => .ok (.lst true vs) (gv ρ2)) Q) {D : Addr} (hD : H D = none) :
    ∃ Wv : Nat → Nat → Hp → Prop, (∃ m, Wv 0 m (upd H D (.lst []))) ∧ ∀ i m H, Wv i m H →
      (J.stop i H ∧ Q (.ref D) H) ∨ (J.go i H ∧ ∃ Nx : Hp → Prop, (∀ H', Nx H' → ∃ m', m' < m ∧ Wv (i + 1) m' H') ∧ ∀ x H', J.yld i H x H' → tGt c (fxOwn own) b x (L2.wipe σ own) H' fun σ2 H2 => L2.wipe σ2 own = L2.wipe σ own ∧
        tTs c W0 tst σ2 H2 fun d H3 => if d = true then tEx c W0 f σ2 H3 fun y H4 => ∃ acc, H4 D = some (.lst acc) ∧ acc.length < sizeLine ∧ Nx (upd H4 D (.lst (acc ++ [y]))) else Nx H3) := by
  let B : AS → AS := fun ad => Uni ad (fun q => q = D)
  let I : Nat → Hp → Prop := fun i H => ∃ ρ F e ad vs acc, P H F ∧ H D = some (.lst acc) ∧ Rs c H F vs acc ad ∧ vs.length ≤ i ∧ Good H F (Uni (Uni t (B ad)) e) ∧ Dis t (Uni (B ad) e) ∧ Dis (B ad) e ∧ ¬ ad D ∧ RE c H F ρ (L2.wipe σ own) e ∧
    (∀ i ∈ own, slot ρ i = none) ∧ Post c W (relE c) σ H F (Uni (Uni t (B ad)) e) ((compL own b tst f (xs.drop i) ρ).bindB fun ws ρ2 => .ok (.lst true (vs ++ ws)) (gv ρ2)) Q
  refine ⟨fun i m H => m = xs.length - i ∧ i ≤ xs.length ∧ I i H, ⟨xs.length, rfl, Nat.zero_le _, ?_⟩, ?_⟩
  · -- the start
    have sn : Stp H F (Uni t e) (upd H D (.lst [])) F (Uni (Uni t e) (fun q => q = D)) := Stp.new hD
    have gn := g0.new hD (o := HO.lst []) trivial
    have nD : ∀ q, Uni t e q → q ≠ D := fun q y z => by
      obtain ⟨_, o, eo, _⟩ := g0.own q y
      rw [z, hD] at eo; cases eo
    have sw : Sub (Uni (Uni t (B Emp)) e) (Uni (Uni t e) (fun q => q = D)) := by
      intro q y
      rcases y with (y | y | y) | y
      · exact .inl (.inl y)
      · exact y.elim
      · exact .inr y
      · exact .inl (.inr y)
    have gE : Good H F Emp := g0.sub Sub.emp
    have sE : Stp H F Emp (upd H D (.lst [])) F Emp := Stp.newT hD
    refine ⟨ρ, F, e, Emp, [], [], S.step _ _ _ _ _ _ p0 gE sE Dis.empr, upd_same, rfl, Nat.le_refl _, gn.sub sw, ?_, ?_, id, e0.step gE sE Dis.empr, o0, ?_⟩
    · exact fun q y z => z.elim (fun z => z.elim False.elim fun z => nD q (.inl y) z) fun z => d0 q y z
    · exact Dis.uni Dis.empl fun q y z => nD q (.inr z) y
    · exact Post.sub (Post.base q0 sn) sw
  · rintro i m H ⟨rfl, hi, ρ, F, e, ad, vs, acc, p, hacc, ra, lv, g, dT, dB, nD, re, ow, q⟩
    by_cases hlt : i < xs.length
    · have hd : xs.drop i = xs[i] :: xs.drop (i + 1) := List.drop_eq_getElem_cons hlt
      rw [hd, compL] at q
      refine .inr ⟨S.go i H F p hlt, I (i + 1), fun H' h => ⟨xs.length - (i + 1), by omega, rfl, hlt, h⟩, fun x H1 y => ?_⟩
      obtain ⟨s1, rx⟩ := S.yld i H F x H1 xs[i] p (g.sub Sub.emp) y (List.getElem?_eq_getElem hlt)
      cases hb : b xs[i] ρ with
      | none => simp only [hb] at q; exact q.elim
      | some ρ1 =>
        simp only [hb] at q
        have gE : Good H F Emp := g.sub Sub.emp
        have g1E : Good H1 F Emp := ⟨fun _ z => z.elim, fun q z => by
          obtain ⟨o, eo⟩ := g.fro q z
          exact ⟨o, s1.keep q o eo id⟩⟩
        have g1 := g.kept s1 g1E Dis.empr
        have p1 : P H1 F := S.step _ _ _ _ _ _ p gE s1 Dis.empr
        have re1 := re.step gE s1 Dis.empr
        have ra1 := ra.step gE s1 Dis.empr
        have hacc1 := s1.keep D _ hacc id
        have b1 : Stp H F (Uni (Uni t (B ad)) e) H1 F (Uni (Uni t (B ad)) e) := ((s1.frame (B := Uni (Uni t (B ad)) e)).more (Sub.uni (Sub.refl _) Sub.emp)).drop Sub.l
        have q1 := Post.base q b1
        refine ⟨xs[i], ρ, F, Emp, e, g1.sub (Sub.uni Sub.emp Sub.r), Dis.empl, rx, re1, ρ1, hb, fun σ2 H2 F2 e2 t2 g2 r2 k2 => ⟨(wipe_keep k2).trans (wipe_wipe _ _), ?_⟩⟩
        have dTe : Dis (Uni t (B ad)) e := Dis.uni (fun q y z => dT q y (.inr z)) dB
        have dTe' : Dis (Uni t (B ad)) (Uni Emp e) := fun q y z => z.elim (fun z => z) (dTe q y)
        have gT1 : Good H1 F (Uni t (B ad)) := g1.sub Sub.l
        have gT2 := gT1.kept t2 g2 dTe'
        have dT2 := t2.apart gT1 dTe'
        have ge1 : Good H1 F (Uni Emp e) := g1.sub (Sub.uni Sub.emp Sub.r)
        have p2 : P H2 F2 := S.step _ _ _ _ _ _ p1 ge1 t2 (fun q y z => dTe' q (.inl y) z)
        have ra2 := ra1.step ge1 t2 (fun q y z => dTe' q (.inr (.inl y)) z)
        have hacc2 := t2.keep D _ hacc1 (fun z => dTe' D (.inr (.inr rfl)) z)
        have q2 := Post.base q1 ((t2.frame (B := Uni t (B ad))).more (show Sub (Uni (Uni t (B ad)) (Uni Emp e)) (Uni (Uni t (B ad)) e) from Sub.uni Sub.l (Sub.uni Sub.emp Sub.r)))
        have q2' : Post c W (relE c) σ H2 F2 (Uni (Uni t (B ad)) e2) ((tst ρ1).bindB fun d ρ2 => ((if d = true then (f ρ2).bindB fun v ρ3 => (compL own b tst f (xs.drop (i + 1)) (wipeE own ρ3)).bindB fun vs ρ4 => .ok (v :: vs) ρ4 else compL own b tst f (xs.drop (i + 1)) (wipeE own ρ2)) : Res (List PV)).bindB fun ws ρ2 => .ok (.lst true (vs ++ ws)) (gv ρ2)) Q := by
          cases hq : tst ρ1 with
          | ok d ρ2 => simp only [hq, Res.bindB_ok] at q2 ⊢; exact q2
          | er _ _ => simp only [hq] at q2; exact q2.elim
          | bad => simp only [hq] at q2; exact q2.elim
        refine tG.nextB (rel := relB) (t := Uni t (B ad)) (b := e2) (gT2.uni g2) Sub.l Sub.r dT2 r2 q2' fun d d' ρ2 H3 F3 a3 e3 g3 dT3 d3 rd r3 s3 q3 => ?_
        cases (show d' = d from rd)
        have ge2 : Good H2 F2 e2 := g2
        have p3 : P H3 F3 := S.step _ _ _ _ _ _ p2 ge2 s3 (fun q y z => dT2 q (.inl y) z)
        have ra3 := ra2.step ge2 s3 (fun q y z => dT2 q (.inr (.inl y)) z)
        have hacc3 := s3.keep D _ hacc2 (fun z => dT2 D (.inr (.inr rfl)) z)
        have se3 : Sub e3 (Uni a3 e3) := Sub.r
        cases d with
        | false =>
          rw [if_neg Bool.false_ne_true] at q3 ⊢
          have wr := r3.wipes own
          rw [(wipe_keep k2).trans (wipe_wipe _ _)] at wr
          refine ⟨wipeE own ρ2, F3, e3, ad, vs, acc, p3, hacc3, ra3, Nat.le_succ_of_le lv, g3.sub (Sub.uni Sub.l (Sub.r.trans Sub.r)), ?_, ?_, nD, wr, fun i h => wipeE_none own _ i h, Post.sub q3 (Sub.uni Sub.l (Sub.r.trans Sub.r))⟩
          · exact fun q y z => z.elim (fun z => dT q y (.inl z)) fun z => dT3 q (.inl y) (.inr z)
          · exact fun q y z => dT3 q (.inr y) (.inr z)
        | true =>
          rw [if_pos rfl] at q3 ⊢
          have q3' : Post c W (relE c) σ H3 F3 (Uni (Uni t (B ad)) (Uni a3 e3)) ((f ρ2).bindB fun v ρ3 => (compL own b tst f (xs.drop (i + 1)) (wipeE own ρ3)).bindB fun ws ρ2 => .ok (.lst true (vs ++ v :: ws)) (gv ρ2)) Q := by
            cases hq : f ρ2 with
            | ok v ρ3 =>
              simp only [hq, Res.bindB_ok] at q3 ⊢
              cases hq2 : compL own b tst f (xs.drop (i + 1)) (wipeE own ρ3) with
              | ok ws ρ4 => simp only [hq2, Res.bindB_ok] at q3 ⊢; exact q3
              | er _ _ => simp only [hq2] at q3; exact q3.elim
              | bad => simp only [hq2] at q3; exact q3.elim
            | er _ _ => simp only [hq] at q3; exact q3.elim
            | bad => simp only [hq] at q3; exact q3.elim
          have dT3e : Dis (Uni t (B ad)) e3 := fun q y z => dT3 q y (.inr z)
          refine tG.nextB (rel := relE c) (t := Uni t (B ad)) (b := e3) g3 Sub.l (Sub.r.trans Sub.r) dT3e r3 q3' fun v yv ρ3 H4 F4 a4 e4 g4 dT4 d4 rv r4 s4 q4 => ?_
          have ge3 : Good H3 F3 e3 := g3.sub (Sub.r.trans Sub.r)
          have p4 : P H4 F4 := S.step _ _ _ _ _ _ p3 ge3 s4 (fun q y z => dT3e q (.inl y) z)
          have ra4 := ra3.step ge3 s4 (fun q y z => dT3e q (.inr (.inl y)) z)
          have hacc4 := s4.keep D _ hacc3 (fun z => dT3e D (.inr (.inr rfl)) z)
          have lacc : acc.length < sizeLine := by
            rw [ra4.len]
            exact Nat.lt_of_le_of_lt lv (Nat.lt_of_lt_of_le hlt S.len)
          refine ⟨acc, hacc4, lacc, ?_⟩
          -- the new item
          have inD : Uni (Uni t (B ad)) (Uni a4 e4) D := .inl (.inr (.inr rfl))
          have sp : Stp H4 F4 (fun q => q = D) (upd H4 D (.lst (acc ++ [yv]))) F4 (fun q => q = D) := Stp.put rfl
          have gD : Good H4 F4 (fun q => q = D) := g4.sub fun q z => by rw [z]; exact inD
          have tD : ∀ {a : AS}, ¬ a D → Dis a (fun q => q = D) := fun n q y z => n (by rw [← z]; exact y)
          have ntD : ¬ t D := fun z => dT D z (.inl (.inr rfl))
          have na4 : ¬ a4 D := fun z => dT4 D (.inr (.inr rfl)) (.inl z)
          have ne4 : ¬ e4 D := fun z => dT4 D (.inr (.inr rfl)) (.inr z)
          have wr := (r4.step gD sp (tD ne4)).wipes own
          rw [(wipe_keep k2).trans (wipe_wipe _ _)] at wr
          have rn : Rs c (upd H4 D (.lst (acc ++ [yv]))) F4 (vs ++ [v]) (acc ++ [yv]) (Uni ad a4) := Rs.append (ra4.step gD sp (tD nD)) (Rs.one (R.step gD sp rv (tD na4))) (fun q y z => dT4 q (.inr (.inl y)) (.inl z))
          have sw : Sub (Uni (Uni t (B (Uni ad a4))) e4) (Uni (Uni t (B ad)) (Uni a4 e4)) := by
            intro q y
            rcases y with (y | (y | y) | y) | y
            · exact .inl (.inl y)
            · exact .inl (.inr (.inl y))
            · exact .inr (.inl y)
            · exact .inl (.inr (.inr y))
            · exact .inr (.inr y)
          have g5 := g4.put (o := .lst (acc ++ [yv])) inD trivial
          have q5 := Post.sub (Post.base q4 (Stp.put (o := .lst (acc ++ [yv])) inD)) sw
          refine ⟨wipeE own ρ3, F4, e4, Uni ad a4, vs ++ [v], acc ++ [yv], S.step _ _ _ _ _ _ p4 gD sp (tD ntD), upd_same, rn, ?_, g5.sub sw, ?_, ?_, fun z => z.elim nD na4, wr, fun i h => wipeE_none own _ i h, ?_⟩
          · rw [List.length_append, List.length_singleton]; exact Nat.succ_le_succ lv
          · intro q y z
            rcases z with ((z | z) | z) | z
            · exact dT q y (.inl (.inl z))
            · exact dT4 q (.inl y) (.inl z)
            · exact dT q y (.inl (.inr z))
            · exact dT4 q (.inl y) (.inr z)
          · intro q y z
            rcases y with (y | y) | y
            · exact dT4 q (.inr (.inl y)) (.inr z)
            · exact d4 q y z
            · exact dT4 q (.inr (.inr y)) (.inr z)
          · have ea : ∀ ws, vs ++ [v] ++ ws = vs ++ v :: ws := fun ws => by rw [List.append_assoc]; rfl
            simp only [ea]
            exact q5
    · have ei : i = xs.length := by omega
      subst ei
      rw [List.drop_length, compL, Res.bindB_ok, List.append_nil] at q
      refine .inl ⟨S.stop H F p, ?_⟩
      have gte : Good H F (Uni t e) := g.sub (Sub.uni (Sub.l.trans Sub.l) Sub.r)
      have dte : Dis t e := fun q y z => dT q y (.inr z)
      have ref := hgv p gte dte re ow
      have lb : vs.length ≤ big := Nat.le_trans lv S.len
      refine q (.ref D) H F (B ad) (Uni t e) (Stp.refl.drop ?_) (g.sub ?_) ?_ ⟨D, acc, ad, rfl, lb, hacc, .inr rfl, nD, Sub.l, ra⟩ ref
      · exact Sub.uni (Sub.r.trans Sub.l) (Sub.uni (Sub.l.trans Sub.l) Sub.r)
      · exact Sub.uni (Sub.r.trans Sub.l) (Sub.uni (Sub.l.trans Sub.l) Sub.r)
      · exact fun q y z => z.elim (fun z => dT q z (.inl y)) (dB q y)
end
section
variable {X : Cx} {c : RC} {W : WX} {tg it elt : Expr} {ifs : List Expr} {scope : Scope} {own : List (Str × Nat)} {pos : Pos} {w : IF} {b : BF} {tst : TF} {f : EF} {i : Nat}
/-- the target, the test and the element, within the block -/
structure Blk (X : Cx) (c : RC) (tg elt : Expr) (ifs : List Expr) (scope : Scope) (own : List (Str × Nat)) (b : BF) (tst : TF) (f : EF) : Prop where
  ok : BlkOk X.N X.env.scope scope own
  g : ∀ (s : Shared) (H : Hp) (C : Addr) (cl : List (Str × Addr)) (fp : List Addr), SG c (fxOwn (own.map (·.2))) (X.blk s H scope (compEnvC scope cl C X.env) fp) tg b
  t : ∀ (s : Shared) (H : Hp) (C : Addr) (cl : List (Str × Addr)) (fp : List Addr), PTs (X.blk s H scope (compEnvC scope cl C X.env) fp) ifs (tTs c W0 tst)
  e : ∀ (s : Shared) (H : Hp) (C : Addr) (cl : List (Str × Addr)) (fp : List Addr), SE (X.blk s H scope (compEnvC scope cl C X.env) fp) c W0 elt f
theorem PTs.weak {t t' : TT} (h : PTs X ifs t) (k : ∀ σ H Q, t' σ H Q → t σ H Q) : PTs X ifs t' := ⟨fun pins s σ H Q I q => h.run pins s σ H Q I (k σ H Q q)⟩
theorem pts_yes : PTs X [] (tTs c W Tr.tYes) := PTs.weak pts_nil fun σ H Q ⟨ρ, F, A, g, e, p⟩ => p.now g (Sub.refl _) rfl e
theorem pts_st {d : Expr} (h : ST X c W d tst) : PTs X [d] (tTs c W tst) := pts_one h
/-- what the slots held, where it was frozen, they hold -/
theorem look_emp {σ : L2.St} {H : Hp} {F a : AS} {ρ : Env} (e : RE c H F ρ σ a) : ∀ i v, slot ρ i = some v → fro v = true → ∃ x, σ[i]? = some (some x) ∧ R c H F v x Emp := fun i v h f => by
  obtain ⟨x, b, h1, _, h3⟩ := e.look h
  exact ⟨x, h1, R.emp h3 f⟩
theorem comp_q {k : Nat} {elt tg it : Expr} {σ : L2.St} {H : Hp} {Q : VK} (q : tEx c W (eComp (own.map (·.2)) w b tst f) σ H Q) :
    tLc (tG c W (relS c) w) (tGt c (fxOwn (own.map (·.2))) b) (tTs c W0 tst) (tEx c W0 f) (own.map (·.2)) σ H Q := by
  refine tG.bind (rel := relS c) q fun xs J ρ1 H1 F1 a e g d r re p D hD => ?_
  obtain ⟨P, hp, S⟩ := r
  have ge : Good H1 F1 (Uni Emp e) := g.sub (Sub.uni Sub.emp Sub.r)
  have rw' := re.wipes (own.map (·.2))
  refine comp_ok (c := c) (W := W) (σ := σ) (P := fun H F => P H F ∧ ∀ i v, slot ρ1 i = some v → fro v = true → ∃ x, σ[i]? = some (some x) ∧ R c H F v x Emp) (t := Emp) (gv := fun ρ2 => restore (own.map (·.2)) ρ1 ρ2)
    ⟨S.len, fun i H F h => S.go i H F h.1, fun H F h => S.stop H F h.1, fun i H F x H' z h => S.yld i H F x H' z h.1, fun H F A H' F' A' h g s d => ⟨S.step _ _ _ _ _ _ h.1 g s d, fun i v e f => ?_⟩⟩ ?_ ⟨hp, look_emp re⟩ ge Dis.empl rw' (fun i h => wipeE_none _ _ i h) (Post.sub p (Sub.uni Sub.emp Sub.r)) hD
  · obtain ⟨x, h1, h2⟩ := h.2 i v e f
    exact ⟨x, h1, R.step g s h2 Dis.empl⟩
  · intro H F e ρ hp g dd re ow
    have es : wipeE (own.map (·.2)) ρ = ρ := by
      have go : ∀ l : List Nat, (∀ i ∈ l, slot ρ i = none) → wipeE l ρ = ρ := by
        intro l
        induction l with
        | nil => intro _; rfl
        | cons j js ih =>
          intro hl
          rw [wipeE, ih fun i h => hl i (List.mem_cons_of_mem _ h)]
          refine List.ext_getElem? fun k => ?_
          by_cases ek : j = k
          · subst ek
            by_cases l : j < ρ.length
            · rw [List.getElem?_set_self l]
              have := hl j List.mem_cons_self
              unfold slot at this
              rw [List.getElem?_eq_getElem l] at this ⊢
              simp only [Option.join_some] at this
              rw [this]
            · rw [List.getElem?_eq_none (by rw [List.length_set]; omega), List.getElem?_eq_none (by omega)]
          · rw [List.getElem?_set_ne ek]
      exact go _ ow
    rw [← es] at re
    have re2 := RE.unwipe _ re
    rw [es] at re2
    exact (RE.restore hp.2 re2).mono Sub.r
theorem se_comp (hc : X.calm = true) (hN : X.N.Nodup) (hi : SI X c W tg it w) (B : Blk X c tg elt ifs scope own b tst f) (hs : ∀ x, foldedSetIterable it X.env x = pure x := by intro _; rfl) :
    SE X c W (.ListComp elt [⟨tg, it, ifs, 0⟩] scope pos) (eComp (own.map (·.2)) w b tst f) :=
  PE.weak (pe_lc hc hN hi B.ok B.g B.t B.e hs) fun σ H Q q => comp_q (k := 0) (elt := elt) (tg := tg) (it := it) q
/-- y = [..] -/
theorem ss_setC {fx : Nat → Bool} {j : Nat} {y : Str} {py spos : Pos} (hc : X.calm = true) (hN : X.N.Nodup) (hy : X.N[j]? = some y) (hyl : X.env.scope.names.lookup y = some .local) (hf : fx j = false)
    (hsw : swapsWith (.ListComp elt [⟨tg, it, ifs, 0⟩] scope pos) (some (.Name y py)) spos.line X.env = pure true) (hi : SI X c W tg it w) (B : Blk X c tg elt ifs scope own b tst f) (hs : ∀ x, foldedSetIterable it X.env x = pure x := by intro _; rfl) :
    SS c W fx X (.Assign [.Name y py] (.ListComp elt [⟨tg, it, ifs, 0⟩] scope pos) spos) (sSet j (eComp (own.map (·.2)) w b tst f)) := by
  refine PS.weak (ps_setLc hc hN hy hyl hsw hi B.ok B.g B.t B.e hs) fun D σ H q => ?_
  refine comp_q (k := 0) (elt := elt) (tg := tg) (it := it) (tS.expr (rel := relE c) q fun v y ρ1 H1 F1 a b g d r e p => ?_)
  exact p.nxt g (Sub.refl _) (e.storeAny r d) (Keep.set hf)
end
end Tr
set_option Elab.async false
set_option linter.all false
set_option maxRecDepth 100000
set_option maxHeartbeats 4000000
/-! Tr.N: comprehensions over a list that stands in a slot. -/
namespace Tr
open PySem PySem.Spec L2
section
variable {X : Cx} {c : RC} {W : WX} {tg it elt : Expr} {ifs : List Expr} {scope : Scope} {own : List (Str × Nat)} {pos : Pos} {b : BF} {tst : TF} {f : EF} {i : Nat}
theorem wipeE_same {l : List Nat} {ρ : Env} (hl : ∀ i ∈ l, slot ρ i = none) : wipeE l ρ = ρ := by
  induction l with
  | nil => rfl
  | cons j js ih =>
    rw [wipeE, ih fun i h => hl i (List.mem_cons_of_mem _ h)]
    refine List.ext_getElem? fun k => ?_
    by_cases ek : j = k
    · subst ek
      by_cases l : j < ρ.length
      · rw [List.getElem?_set_self l]
        have := hl j List.mem_cons_self
        unfold slot at this
        rw [List.getElem?_eq_getElem l] at this ⊢
        simp only [Option.join_some] at this
        rw [this]
      · rw [List.getElem?_eq_none (by rw [List.length_set]; omega), List.getElem?_eq_none (by omega)]
    · rw [List.getElem?_set_ne ek]
theorem RE.full {σ : L2.St} {H : Hp} {F a : AS} {ρ : Env} {l : List Nat} (h : RE c H F ρ (L2.wipe σ l) a) (hl : ∀ i ∈ l, slot ρ i = none) : RE c H F ρ σ a := by
  rw [← wipeE_same hl] at h
  have := RE.unwipe l h
  rwa [wipeE_same hl] at this
/-- what stays true of a list or tuple that is walked -/
theorem seq_stays {v : PV} {x : V} {a : AS} {xs : List PV} (hv : items v = some xs) (f : fros xs = true) {H : Hp} {F : AS} (r : R c H F v x a) :
    ∃ (p : Addr) (vs : List V), x = .ref p ∧ ((∃ w, v = .lst w xs) ∧ Rd H p (.lst vs) ∨ v = .tup xs ∧ SqT c.K H p vs) ∧ xs.length ≤ big ∧ Rs c H F xs vs Emp := by
  cases v with
  | lst w ys =>
    cases hv
    obtain ⟨p, vs, bb, rfl, q1, l, _, rs⟩ := r.lstR
    exact ⟨p, vs, rfl, .inl ⟨⟨w, rfl⟩, q1⟩, l, rs.emp f⟩
  | tup ys =>
    cases hv
    obtain ⟨p, vs, rfl, q1, l, rs⟩ := r.tupR
    exact ⟨p, vs, rfl, .inr ⟨rfl, q1⟩, l, rs.emp f⟩
  | _ => cases hv
theorem rd_step {w : Bool} {xs : List PV} {p : Addr} {vs : List V} {a : AS} {H H' : Hp} {F A F' A' : AS} (g : Good H F A) (s : Stp H F A H' F' A') (d : Dis a A) (r : R c H F (.lst w xs) (.ref p) a) (q : Rd H p (.lst vs)) : Rd H' p (.lst vs) := by
  have na : ¬ A p := by
    cases w with
    | true => obtain ⟨p3, vs3, a3, e3, l3, q3, m3, _⟩ := r; cases e3; exact fun y => d _ m3 y
    | false => obtain ⟨p3, vs3, e3, ⟨q3, _⟩, _⟩ := r; cases e3; exact fun y => (g.own _ y).1 q3.2
  exact q.elim (fun q => .inl (s.keep _ _ q na)) fun ⟨o, q⟩ => .inr ⟨o, s.keep _ _ q na⟩
/-- as a source: the list of a slot, with what it owns on the side -/
theorem src_slot {w : Bool} {xs : List PV} {p : Addr} {vs : List V} {a : AS} {Pr : Hp → AS → Prop} (l : xs.length ≤ big) (hp : ∀ H F A H' F' A', Pr H F → Good H F A → Stp H F A H' F' A' → Pr H' F') :
    Src c (Itl c.K p) (fun H F => (R c H F (.lst w xs) (.ref p) a ∧ Rd H p (.lst vs) ∧ Rs c H F xs vs Emp) ∧ Pr H F) a xs where
  len := l
  go := fun i H F h l => ⟨vs, vs[i]'(by rw [h.1.2.2.len]; exact l), .inl h.1.2.1, List.getElem?_eq_getElem _⟩
  stop := fun H F h => ⟨vs, .inl h.1.2.1, by rw [h.1.2.2.len]; exact Nat.le_refl _⟩
  yld := fun i H F x H' z h g y e => by
    obtain ⟨rfl, y⟩ := y
    exact ⟨Stp.refl, h.1.2.2.getV e (y vs (.inl h.1.2.1))⟩
  step := fun H F A H' F' A' h g s d => ⟨⟨R.step g s h.1.1 d, rd_step g s d h.1.1 h.1.2.1, h.1.2.2.step g s Dis.empl⟩, hp _ _ _ _ _ _ h.2 g s⟩
theorem src_slotT {xs : List PV} {p : Addr} {vs : List V} {a : AS} {Pr : Hp → AS → Prop} (l : xs.length ≤ big) (hp : ∀ H F A H' F' A', Pr H F → Good H F A → Stp H F A H' F' A' → Pr H' F') :
    Src c (Itt c.K p) (fun H F => (R c H F (.tup xs) (.ref p) a ∧ SqT c.K H p vs ∧ Rs c H F xs vs Emp) ∧ Pr H F) a xs where
  len := l
  go := fun i H F h l => ⟨vs, vs[i]'(by rw [h.1.2.2.len]; exact l), h.1.2.1, List.getElem?_eq_getElem _⟩
  stop := fun H F h => ⟨vs, h.1.2.1, by rw [h.1.2.2.len]; exact Nat.le_refl _⟩
  yld := fun i H F x H' z h g y e => by
    obtain ⟨rfl, y⟩ := y
    exact ⟨Stp.refl, h.1.2.2.getV e (y vs h.1.2.1)⟩
  step := fun H F A H' F' A' h g s d => ⟨⟨R.step g s h.1.1 d, SqT.step g s h.1.2.1, h.1.2.2.step g s Dis.empl⟩, hp _ _ _ _ _ _ h.2 g s⟩
def rst (c : RC) (σ : L2.St) (ρ : Env) : Hp → AS → Prop := fun H F => ∀ j u, slot ρ j = some u → fro u = true → ∃ y, σ[j]? = some (some y) ∧ R c H F u y Emp
theorem rst_step {σ : L2.St} {ρ : Env} : ∀ H F A H' F' A', rst c σ ρ H F → Good H F A → Stp H F A H' F' A' → rst c σ ρ H' F' := fun H F A H' F' A' h g s j u e f => by
  obtain ⟨y, h1, h2⟩ := h j u e f
  exact ⟨y, h1, R.step g s h2 Dis.empl⟩
theorem compN_q {σ : L2.St} {H : Hp} {Q : VK} (hi : i ∉ own.map (·.2)) (q : tEx c W (eCompN (own.map (·.2)) i b tst f) σ H Q) :
    tLc (fun σ H R => iList c.K (tVar i) σ H R ∨ iTup c.K (tVar i) σ H R) (tGt c (fxOwn (own.map (·.2))) b) (tTs c W0 tst) (tEx c W0 f) (own.map (·.2)) σ H Q := by
  obtain ⟨ρ, F, A, g, e, p⟩ := q
  unfold eCompN at p
  cases q : slot ρ i with
  | none => simp only [q] at p; exact p.elim
  | some v =>
    simp only [q] at p
    cases qi : items v with
    | none => simp only [qi] at p; exact p.elim
    | some xs =>
      simp only [qi] at p
      split at p
      · rename_i fr
        have hr0 : rst c σ ρ H F := look_emp e
        split at p
        · -- frozen
          rename_i fv
          obtain ⟨x, bb, h1, _, h3⟩ := e.look q
          have r := R.emp h3 fv
          obtain ⟨pp, vs, rfl, hs, l, rs⟩ := seq_stays qi fr r
          have gE : Good H F (Uni Emp A) := g.sub (Sub.uni Sub.emp (Sub.refl _))
          have rw' := e.wipes (own.map (·.2))
          have fin : ∀ {H : Hp} {F e : AS} {ρ2 : Env}, rst c σ ρ H F → Good H F (Uni Emp e) → Dis Emp e → RE c H F ρ2 (L2.wipe σ (own.map (·.2))) e → (∀ j ∈ own.map (·.2), slot ρ2 j = none) → RE c H F (restore (own.map (·.2)) ρ ρ2) σ (Uni Emp e) :=
            fun h _ _ re ow => (RE.restore h (re.full ow)).mono Sub.r
          rcases hs with ⟨⟨w, rfl⟩, q1⟩ | ⟨rfl, q1⟩
          · refine .inl ⟨.ref pp, h1, pp, rfl, ⟨vs, .inl q1⟩, fun D hD => ?_⟩
            exact comp_ok (c := c) (W := W) (σ := σ) (gv := fun ρ2 => restore (own.map (·.2)) ρ ρ2) (src_slot (w := w) (p := pp) (vs := vs) (a := Emp) (Pr := rst c σ ρ) l rst_step) (fun h => fin h.2) ⟨⟨r, q1, rs⟩, hr0⟩ gE Dis.empl rw' (fun j h => wipeE_none _ _ j h) (Post.sub p (Sub.uni Sub.emp (Sub.refl _))) hD
          · refine .inr ⟨.ref pp, h1, pp, rfl, ⟨vs, q1⟩, fun D hD => ?_⟩
            exact comp_ok (c := c) (W := W) (σ := σ) (gv := fun ρ2 => restore (own.map (·.2)) ρ ρ2) (src_slotT (p := pp) (vs := vs) (a := Emp) (Pr := rst c σ ρ) l rst_step) (fun h => fin h.2) ⟨⟨r, q1, rs⟩, hr0⟩ gE Dis.empl rw' (fun j h => wipeE_none _ _ j h) (Post.sub p (Sub.uni Sub.emp (Sub.refl _))) hD
        · -- lent
          obtain ⟨x, a, d, h1, h2, h3, h4, h5, h6⟩ := e.take q
          obtain ⟨pp, vs, rfl, hs, l, rs⟩ := seq_stays qi fr h5
          have g2 : Good H F (Uni a d) := g.sub (Sub.uni h2 h3)
          have rw' := h6.wipes (own.map (·.2))
          have fin : ∀ {H : Hp} {F e : AS} {ρ2 : Env}, R c H F v (.ref pp) a → rst c σ ρ H F → Good H F (Uni a e) → Dis a e → RE c H F ρ2 (L2.wipe σ (own.map (·.2))) e → (∀ j ∈ own.map (·.2), slot ρ2 j = none) → RE c H F ((restore (own.map (·.2)) ρ ρ2).set i (some v)) σ (Uni a e) :=
            fun {H F e ρ2} r h g dd re ow => by
              have := RE.put ((RE.restore (own := own.map (·.2)) h (re.full ow)).wipe i) h1 r dd
              rwa [List.set_set] at this
          rcases hs with ⟨⟨w, rfl⟩, q1⟩ | ⟨rfl, q1⟩
          · refine .inl ⟨.ref pp, h1, pp, rfl, ⟨vs, .inl q1⟩, fun D hD => ?_⟩
            exact comp_ok (c := c) (W := W) (σ := σ) (gv := fun ρ2 => (restore (own.map (·.2)) ρ ρ2).set i (some (.lst w xs))) (src_slot (w := w) (p := pp) (vs := vs) (a := a) (Pr := rst c σ ρ) l rst_step) (fun h => fin h.1.1 h.2) ⟨⟨h5, q1, rs⟩, hr0⟩ g2 h4 rw' (fun j h => wipeE_none _ _ j h) (Post.sub p (Sub.uni h2 h3)) hD
          · refine .inr ⟨.ref pp, h1, pp, rfl, ⟨vs, q1⟩, fun D hD => ?_⟩
            exact comp_ok (c := c) (W := W) (σ := σ) (gv := fun ρ2 => (restore (own.map (·.2)) ρ ρ2).set i (some (.tup xs))) (src_slotT (p := pp) (vs := vs) (a := a) (Pr := rst c σ ρ) l rst_step) (fun h => fin h.1.1 h.2) ⟨⟨h5, q1, rs⟩, hr0⟩ g2 h4 rw' (fun j h => wipeE_none _ _ j h) (Post.sub p (Sub.uni h2 h3)) hD
      · exact p.elim
theorem se_compN (hK : X.K = c.K) (hc : X.calm = true) (hN : X.N.Nodup) (hv : PE X it (tVar i)) (hi : i ∉ own.map (·.2)) (B : Blk X c tg elt ifs scope own b tst f) (hs : ∀ x, foldedSetIterable it X.env x = pure x := by intro _; rfl) :
    SE X c W (.ListComp elt [⟨tg, it, ifs, 0⟩] scope pos) (eCompN (own.map (·.2)) i b tst f) := by
  refine PE.weak (pe_lc hc hN (PI.or (pi_list (tg := tg) hv) (pi_tup (tg := tg) hv)) B.ok B.g B.t B.e hs) fun σ H Q q => ?_
  rw [hK]
  exact compN_q hi q
theorem ss_setCN {fx : Nat → Bool} {j : Nat} {y : Str} {py spos : Pos} (hK : X.K = c.K) (hc : X.calm = true) (hN : X.N.Nodup) (hy : X.N[j]? = some y) (hyl : X.env.scope.names.lookup y = some .local) (hf : fx j = false)
    (hsw : swapsWith (.ListComp elt [⟨tg, it, ifs, 0⟩] scope pos) (some (.Name y py)) spos.line X.env = pure true) (hv : PE X it (tVar i)) (hi : i ∉ own.map (·.2)) (B : Blk X c tg elt ifs scope own b tst f) (hs : ∀ x, foldedSetIterable it X.env x = pure x := by intro _; rfl) :
    SS c W fx X (.Assign [.Name y py] (.ListComp elt [⟨tg, it, ifs, 0⟩] scope pos) spos) (sSet j (eCompN (own.map (·.2)) i b tst f)) := by
  refine PS.weak (ps_setLc hc hN hy hyl hsw (PI.or (pi_list (tg := tg) hv) (pi_tup (tg := tg) hv)) B.ok B.g B.t B.e hs) fun D σ H q => ?_
  rw [hK]
  refine compN_q hi (tS.expr (rel := relE c) q fun v y ρ1 H1 F1 a b g d r e p => ?_)
  exact p.nxt g (Sub.refl _) (e.storeAny r d) (Keep.set hf)
end
end Tr
/-! Tr: what is changed in place, on trees. -/
set_option autoImplicit false
namespace Tr
/-- x.append(e) -/
def sApp (i : Nat) (f : EF) : SF := fun ρ => match slot ρ i with
  | some (.lst _ _) => sOf (f ρ) fun v ρ1 => match slot ρ1 i with
    | some (.lst true xs) => if xs.length < big then .nx (ρ1.set i (some (.lst true (xs ++ [v])))) else .bad
    | _ => .bad
  | _ => .bad
/-- x.extend(e), e new -/
def sExt (i : Nat) (f : EF) : SF := fun ρ => match slot ρ i with
  | some (.lst _ _) => sOf (f ρ) fun v ρ1 => match slot ρ1 i, v with
    | some (.lst true xs), .lst true ys => if xs.length + ys.length ≤ big then .nx (ρ1.set i (some (.lst true (xs ++ ys)))) else .bad
    | _, _ => .bad
  | _ => .bad
/-- x[g] = f -/
def sPutL (i : Nat) (g : EF) (f : EF) : SF := fun ρ => sOf (f ρ) fun v ρ1 => match slot ρ1 i with
  | some _ => sOf (g ρ1) fun k ρ2 => match slot ρ2 i, k with
    | some (.lst true xs), .int k => match ixN xs.length k with
      | some j => .nx (ρ2.set i (some (.lst true (xs.set j v))))
      | none => .bad
    | _, _ => .bad
  | none => .bad
def sPar2 (i j : Nat) (g : AF) : SF := fun ρ => sOf (g ρ) fun vs ρ1 => match vs with
  | [v, w] => .nx ((ρ1.set i (some v)).set j (some w))
  | _ => .bad
def sPar3 (i j k : Nat) (g : AF) : SF := fun ρ => sOf (g ρ) fun vs ρ1 => match vs with
  | [v, w, z] => .nx (((ρ1.set i (some v)).set j (some w)).set k (some z))
  | _ => .bad
end Tr
set_option Elab.async false
set_option linter.all false
set_option maxRecDepth 100000
set_option maxHeartbeats 4000000
/-! Tr.M: what is changed in place. -/
namespace Tr
open PySem PySem.Spec L2
section
variable {c : RC} {H H' : Hp} {F A : AS}
/-- an owned list's items -/
theorem R.own {xs : List PV} {x : V} {a : AS} (r : R c H F (.lst true xs) x a) : ∃ p vs a', x = .ref p ∧ xs.length ≤ big ∧ H p = some (.lst vs) ∧ a p ∧ ¬ a' p ∧ Sub a' a ∧ Rs c H F xs vs a' := r
theorem Rs.setAt {xs : List PV} {vs : List V} {a b : AS} {j : Nat} {x : PV} {v : V} (r : Rs c H F xs vs a) (rx : R c H F x v b) (d : Dis b a) : Rs c H F (xs.set j x) (vs.set j v) (Uni b a) := by
  rcases Nat.lt_or_ge j xs.length with l | l
  · obtain ⟨w, b1, d1, h1, h2, h3, h4, h5, h6⟩ := r.focus (List.getElem?_eq_getElem l)
    exact (h6 H F x v b d1 (fun _ _ _ _ r => r) rx (d.mono (Sub.refl _) h3)).mono (Sub.uni Sub.l (h3.trans Sub.r))
  · rw [List.set_eq_of_length_le l, List.set_eq_of_length_le (by rw [r.len]; exact l)]
    exact r.mono Sub.r
/-- a list in a slot is written anew: its items ys, which own b beside what the other slots own -/
theorem write_slot {σ : L2.St} {e : AS} {ρ : Env} {i : Nat} {p : Addr} {a : AS} {ys : List PV} {ws : List V} (g : Good H F (Uni a e)) (d : Dis a e) (re : RE c H F (ρ.set i none) σ e) (hx : σ[i]? = some (some (.ref p))) (ap : a p) {b : AS} (sb : Sub b a) (nb : ¬ b p)
    (rs : Rs c H F ys ws b) (l : ys.length ≤ big) : Stp H F (Uni a e) (upd H p (.lst ws)) F (Uni a e) ∧ Good (upd H p (.lst ws)) F (Uni a e) ∧ RE c (upd H p (.lst ws)) F (ρ.set i (some (.lst true ys))) σ (Uni a e) := by
  have gp : Good H F (fun q => q = p) := g.sub fun q z => by rw [z]; exact .inl ap
  have sp : Stp H F (fun q => q = p) (upd H p (.lst ws)) F (fun q => q = p) := Stp.put rfl
  have nD : ∀ {t : AS}, ¬ t p → Dis t (fun q => q = p) := fun n q y z => n (by rw [← z]; exact y)
  have re2 := re.step gp sp (nD fun z => d p ap z)
  have rs2 := rs.step gp sp (nD nb)
  refine ⟨Stp.put (.inl ap), g.put (.inl ap) trivial, ?_⟩
  have := RE.put re2 hx (show R c (upd H p (.lst ws)) F (.lst true ys) (.ref p) a from ⟨p, ws, b, rfl, l, upd_same, ap, nb, sb, rs2⟩) d
  rwa [List.set_set] at this
end
section
variable {X : Cx} {c : RC} {W : WX} {fx : Nat → Bool} {i : Nat} {x : Str} {e : Expr} {f : EF} {pos p apos : Pos}
theorem tyv_list {w : Bool} {xs : List PV} {v : V} {a : AS} {H : Hp} {F : AS} (r : R c H F (.lst w xs) v a) : tyV c.K "list" v H := by
  obtain ⟨p, vs, b, rfl, q1, l, _, rs⟩ := r.lstR
  exact .inl ⟨rfl, vs, .inl q1⟩
/-- x.append(e) -/
theorem ss_app (hK : X.K = c.K) (hv : PE X (.Name x p) (tVar i)) (h : SE X c W e f)
    (hbase : attributeBase (.Name x p) "append" X.env (eval (.Name x p) X.env) = eval (.Name x p) X.env := by rfl)
    (hfew : ((backTo pos (starEach (e :: []) X.env)).all (fun x => !x.1) && (backToKw pos (keywordEach [] X.env)).all (fun x => x.1.isSome)
      && decide ((e :: ([] : List Expr)).length + ([] : List Keyword).length + (if ([] : List Keyword).isEmpty then 0 else 1) < 30)) = true := by rfl)
    (hline : (apos.endLine == pos.line) = true := by rfl) (hs : starEach (e :: []) X.env = (false, eval e X.env) :: starEach [] X.env := by rfl) (hplain : (backTo pos (starEach [] X.env)).any (·.1) = false := by rfl) {pos2 : Pos}
    (hsw : swapsWith (.Call (.Attribute (.Name x p) "append" apos) [e] [] pos) none pos2.line X.env = pure false := by rfl) :
    SS c W fx X (.Expr (.Call (.Attribute (.Name x p) "append" apos) [e] [] pos) pos2) (sApp i f) := by
  refine PS.weak (ps_expr (pe_bm PySem.F.plainAttrs_list PySem.F.slot_list_append PySem.F.type_list_append mt_append hv (pa_cons h pa_nil hs) hbase hfew hline hs hplain) hsw) fun D σ H q => ?_
  obtain ⟨ρ, F, A, g, re, p⟩ := q
  unfold sApp at p
  cases q : slot ρ i with
  | none => simp only [q] at p; exact p.elim
  | some v =>
    cases v with
    | lst w0 xs0 =>
      simp only [q] at p
      obtain ⟨x0, b0, h1, _, h3⟩ := re.look q
      refine ⟨x0, h1, by rw [hK]; exact tyv_list h3, ?_⟩
      refine tS.expr (rel := relE c) (fx := fx) (W := W) (D := D) ⟨ρ, F, A, g, re, p⟩ fun v y ρ1 H1 F1 a e g1 d r re1 p1 => ?_
      cases q1 : slot ρ1 i with
      | none => simp only [q1] at p1; exact p1.elim
      | some u =>
        cases u with
        | lst w xs =>
          cases w with
          | true =>
            simp only [q1] at p1
            split at p1
            · rename_i l
              obtain ⟨x1, bb, dd, k1, k2, k3, k4, k5, k6⟩ := re1.take q1
              rw [h1] at k1; cases k1
              obtain ⟨pp, vs, a', rfl, l0, hp, m, n, t, rs⟩ := k5.own
              refine ⟨pp, vs, y, rfl, rfl, hp, by rw [rs.len]; exact l, ?_⟩
              have dab : Dis a' a := fun q y z => d q z (k2 q (t q y))
              have gg : Good H1 F1 (Uni (Uni bb a) dd) := g1.sub (Sub.uni (Sub.uni (k2.trans Sub.r) Sub.l) (k3.trans Sub.r))
              have hdd : Dis (Uni bb a) dd := Dis.uni k4 (fun q y z => d q y (k3 q z))
              obtain ⟨s2, g2, e2⟩ := write_slot gg hdd k6 h1 (.inl m) (b := Uni a' a) (Sub.uni (t.trans Sub.l) Sub.r) (fun z => z.elim n fun z => d pp z (k2 pp m)) (rs.append (Rs.one r) dab) (by rw [List.length_append, List.length_singleton]; exact l)
              exact (PostS.sub p1 (Sub.uni (Sub.uni (k2.trans Sub.r) Sub.l) (k3.trans Sub.r))) σ _ F1 _ s2 g2 e2 Keep.refl
            · exact p1.elim
          | false => simp only [q1] at p1; exact p1.elim
        | _ => simp only [q1] at p1; exact p1.elim
    | _ => simp only [q] at p; exact p.elim
/-- x[k] = e -/
theorem ss_putL {ek : Expr} {fk : EF} {tp : Pos} (hv : PE X (.Name x p) (tVar i)) (h : SE X c W e f) (hk : SE X c W ek fk)
    (ha : ∀ v, assign (.Subscript (.Name x p) ek tp) X.env v = (do
      let ov ← holding [v] (eval (.Name x p) X.env)
      let iv ← holding [v, ov] (eval ek X.env)
      standAt tp
      holding [v, ov, iv] (setItem ov iv v)
      release [v, ov, iv] []) := by intro _; rfl)
    (hs : swapsWithSole [.Subscript (.Name x p) ek tp] e pos.line X.env = pure false := by rfl) (hw : swappedStores [.Subscript (.Name x p) ek tp] e X.env = pure none := by rfl)
    (h1 : (assignEach [.Subscript (.Name x p) ek tp] X.env).map (·.2) = [assign (.Subscript (.Name x p) ek tp) X.env] := by rfl) :
    SS c W fx X (.Assign [.Subscript (.Name x p) ek tp] e pos) (sPutL i fk f) := by
  refine PS.weak (ps_asg h (pg_sub hv hk set_list ha) hs hw h1) fun D σ H q => ?_
  refine tS.expr (rel := relE c) q fun v y ρ1 H1 F1 a e g1 d r re1 p1 => ?_
  cases q0 : slot ρ1 i with
  | none => simp only [q0] at p1; exact p1.elim
  | some u0 =>
    simp only [q0] at p1
    obtain ⟨x0, b0, h1, _, h3⟩ := re1.look q0
    refine ⟨x0, h1, ?_⟩
    -- the place, beside the value
    refine ⟨ρ1, F1, e, g1.sub Sub.r, re1, ?_⟩
    have all : ∀ {H2 : Hp} {F2 A2 : AS}, Stp H1 F1 e H2 F2 A2 → Stp H1 F1 (Uni a e) H2 F2 (Uni a A2) := fun s => s.frame
    cases q1 : fk ρ1 with
    | bad => simp only [q1] at p1; exact p1.elim
    | er z ρ2 =>
      simp only [q1] at p1
      intro cls dd H2 F2 e2 s g2 rx re2
      exact p1 cls dd σ H2 F2 e2 ((all s).drop Sub.r) g2 rx re2 Keep.refl
    | ok kv ρ2 =>
      simp only [q1] at p1
      intro kx H2 F2 a2 e2 s g2 d2 rk re2
      have ga := (g1.sub (show Sub a _ from Sub.l)).kept s g2 d
      have da := s.apart (g1.sub (show Sub a _ from Sub.l)) d
      have r2 := R.step (g1.sub Sub.r) s r d
      have p2 := PostS.base p1 (all s) Keep.refl
      cases q2 : slot ρ2 i with
      | none => simp only [sOf_ok, q2] at p2; exact p2.elim
      | some u =>
        simp only [sOf_ok, q2] at p2
        split at p2
        · rename_i xs k eu
          cases eu
          split at p2
          · rename_i j hj
            obtain ⟨x1, bb, dd, k1, k2, k3, k4, k5, k6⟩ := re2.take q2
            rw [h1] at k1; cases k1
            obtain ⟨pp, vs, a', rfl, l0, hp, m, n, t, rs⟩ := k5.own
            refine ⟨pp, vs, k, j, rfl, rk, hp, by rw [rs.len]; exact hj, ?_⟩
            have dab : Dis a a' := fun q y z => da q y (.inr (k2 q (t q z)))
            have gg : Good H2 F2 (Uni (Uni bb a) dd) := (ga.uni g2).sub (Sub.uni (Sub.uni (k2.trans (Sub.r.trans Sub.r)) Sub.l) (k3.trans (Sub.r.trans Sub.r)))
            have hdd : Dis (Uni bb a) dd := Dis.uni k4 (fun q y z => da q y (.inr (k3 q z)))
            obtain ⟨s3, g3, e3⟩ := write_slot gg hdd k6 h1 (.inl m) (b := Uni a a') (Sub.uni Sub.r (t.trans Sub.l)) (fun z => z.elim (fun z => da pp z (.inr (k2 pp m))) n) (rs.setAt (j := j) r2 dab) (by rw [List.length_set]; exact l0)
            exact (PostS.sub p2 (Sub.uni (Sub.uni (k2.trans (Sub.r.trans Sub.r)) Sub.l) (k3.trans (Sub.r.trans Sub.r)))) σ _ F2 _ s3 g3 e3 Keep.refl
          · exact p2.elim
        · exact p2.elim
/-- a, b = e1, e2, both local -/
theorem ss_par2 {i j : Nat} {x y : Str} {a b : Expr} {g : AF} {px py pt : Pos} {kt k2 pt2} (hc : X.calm = true) (hN : X.N.Nodup) (hi : X.N[i]? = some x) (hj : X.N[j]? = some y) (hij : i ≠ j) (fi : fx i = false) (fj : fx j = false)
    (hx : X.env.scope.names.lookup x = some .local) (hy : X.env.scope.names.lookup y = some .local) (ha : SA X c W [a, b] g)
    (hw : swappedStores [.Tuple [.Name x px, .Name y py] kt pt] (.Tuple [a, b] k2 pt2) X.env = pure (some [x, y]))
    (hs : swapsWithSole [.Tuple [.Name x px, .Name y py] kt pt] (.Tuple [a, b] k2 pt2) pos.line X.env = pure false := by rfl) :
    SS c W fx X (.Assign [.Tuple [.Name x px, .Name y py] kt pt] (.Tuple [a, b] k2 pt2) pos) (sPar2 i j g) := by
  refine PS.weak (ps_par hc hN hi hj hij hx hy ha hw hs) fun D σ H q => ?_
  refine tS.expr (rel := relL c) q fun vs xs ρ1 H1 F1 a e g1 d r re1 p1 => ?_
  match vs, r with
  | [v, w], ⟨v', vs', b1, d1, e1, s1, s2, k, r1, w', vs2, b2, d2, e2, t1, t2, kk, r2, r3⟩ =>
    subst e1 e2
    cases (show vs2 = [] from r3)
    refine ⟨v', w', rfl, ?_⟩
    have e3 := re1.storeAny (i := i) r1 (d.mono s1 (Sub.refl _))
    have e4 := e3.storeAny (i := j) r2 (fun q y z => z.elim (fun z => k q z (t1 q y)) (d q (s2 q (t1 q y))))
    exact p1.nxt g1 (Sub.uni (t1.trans (s2.trans Sub.l)) (Sub.uni (s1.trans Sub.l) Sub.r)) e4 ((Keep.set fi).trans (Keep.set fj))
  | [], _ => exact p1.elim
  | [_], _ => exact p1.elim
  | _ :: _ :: _ :: _, _ => exact p1.elim
end
end Tr
set_option Elab.async false
set_option linter.all false
set_option maxRecDepth 100000
set_option maxHeartbeats 4000000
/-! Tr.W: the rules in short, for a place (Dk). -/
namespace Tr
open PySem PySem.Spec L2
section
variable {X : Cx} {c : RC} {W : WX} {k : Nat} {pos : Pos} {a b d : Expr} {oa ob od : Opd}
theorem w_add (D : Ds X c) (ha : SO X c W a oa) (hb : SO X c W b ob) : SE X c W (.BinOp a .Add b pos) (eP2 bAdd oa ob) := se_bin op_addAll (by rw [D.K]; exact k_add) ha hb
theorem w_sub (D : Ds X c) (ha : SO X c W a oa) (hb : SO X c W b ob) : SE X c W (.BinOp a .Sub b pos) (eP2 bSub oa ob) := se_bin op_sub k_sub ha hb
theorem w_mul (D : Ds X c) (ha : SO X c W a oa) (hb : SO X c W b ob) : SE X c W (.BinOp a .Mult b pos) (eP2 bMul oa ob) := se_bin op_mulAll k_mul ha hb
theorem w_div (D : Ds X c) (ha : SO X c W a oa) (hb : SO X c W b ob) : SE X c W (.BinOp a .FloorDiv b pos) (eP2 bDiv oa ob) := se_bin op_fdivW k_div ha hb
theorem w_mod (D : Ds X c) (ha : SO X c W a oa) (hb : SO X c W b ob) : SE X c W (.BinOp a .Mod b pos) (eP2 bMod oa ob) := se_bin op_mod k_mod ha hb
theorem w_pow (D : Ds X c) (ha : SO X c W a oa) (hb : SO X c W b ob) : SE X c W (.BinOp a .Pow b pos) (eP2 bPow oa ob) := se_bin op_powW k_pow ha hb
theorem w_neg (D : Ds X c) (ha : SO X c W a oa) : SE X c W (.UnaryOp .USub a pos) (eP1 uNeg oa) := se_un un_neg k_neg ha
theorem t_eq (D : Ds X c) (ha : SO X c W a oa) (hb : SO X c W b ob) : ST X c W (.Compare a [.Eq] [b] pos) (tPV2 cEq oa ob) := st_cmp (op_eqD D.un) (by rw [D.K]; exact k_eq) ha hb (nomark _)
theorem t_ne (D : Ds X c) (ha : SO X c W a oa) (hb : SO X c W b ob) : ST X c W (.Compare a [.NotEq] [b] pos) (tPV2 cNe oa ob) := st_cmp (op_neD D.un) (by rw [D.K]; exact k_ne) ha hb (nomark _)
theorem t_lt (D : Ds X c) (ha : SO X c W a oa) (hb : SO X c W b ob) : ST X c W (.Compare a [.Lt] [b] pos) (tPV2 cLt oa ob) := st_cmp op_lt k_lt ha hb (nomark _)
theorem t_gt (D : Ds X c) (ha : SO X c W a oa) (hb : SO X c W b ob) : ST X c W (.Compare a [.Gt] [b] pos) (tPV2 cGt oa ob) := st_cmp op_gt k_gt ha hb (nomark _)
theorem t_in (D : Ds X c) (ha : SO X c W a oa) (hb : SO X c W b ob) (hm : behindInMarks .In b = false := by rfl) : ST X c W (.Compare a [.In] [b] pos) (tPV2 cIn oa ob) := st_cmp (op_inD D.un) (by rw [D.K]; exact k_in false) ha hb hm
theorem t_ni (D : Ds X c) (ha : SO X c W a oa) (hb : SO X c W b ob) (hm : behindInMarks .NotIn b = false := by rfl) : ST X c W (.Compare a [.NotIn] [b] pos) (tPV2 cNi oa ob) := st_cmp (op_niD D.un) (by rw [D.K]; exact k_in true) ha hb hm
theorem e_eq (D : Ds X c) (ha : SO X c W a oa) (hb : SO X c W b ob) : SE X c W (.Compare a [.Eq] [b] pos) (eT (tPV2 cEq oa ob)) := se_cmp (op_eqD D.un) (by rw [D.K]; exact k_eq) ha hb (nomark _)
theorem e_in (D : Ds X c) (ha : SO X c W a oa) (hb : SO X c W b ob) (hm : behindInMarks .In b = false := by rfl) : SE X c W (.Compare a [.In] [b] pos) (eT (tPV2 cIn oa ob)) := se_cmp (op_inD D.un) (by rw [D.K]; exact k_in false) ha hb hm
theorem t_isN (D : Ds X c) {j pos'} (ha : SO X c W a oa) : ST X c W (.Compare a [.Is] [.Constant .none j pos'] pos) (tPV cIsN oa) := st_isN ha
theorem e_isN (D : Ds X c) {j pos'} (ha : SO X c W a oa) : SE X c W (.Compare a [.Is] [.Constant .none j pos'] pos) (eT (tPV cIsN oa)) := se_isN ha
theorem t_noN (D : Ds X c) {j pos'} (ha : SO X c W a oa) : ST X c W (.Compare a [.IsNot] [.Constant .none j pos'] pos) (tPV cNotN oa) := st_notN ha
theorem e_noN (D : Ds X c) {j pos'} (ha : SO X c W a oa) : SE X c W (.Compare a [.IsNot] [.Constant .none j pos'] pos) (eT (tPV cNotN oa)) := se_notN ha
/-! chains -/
theorem ch_q {r r' : R2} {l m : PV → PV → Option Bool} (hl : C2 c r l) (hm : C2 c r' m) {σ : L2.St} {H : Hp} {Q : Bool → Hp → Prop} {Q' : VK} (hq : ∀ z H, Q z H → Q' (.bl z) H) (q : tTs c W (tCh l m oa ob od) σ H Q) :
    tChain r r' (tO c W oa) (tO c W ob) (tO c W od) σ H Q' := by
  obtain ⟨ρ, F, A, gd, e, p⟩ := q
  refine tO.next (t := Emp) gd Sub.emp (Sub.refl _) Dis.empl e p fun u x ρ1 H1 F1 a1 b1 g1 _ d tm e1 s p1 => ?_
  refine tO.next (t := a1) (b := b1) g1 (Sub.l.trans Sub.r) (Sub.r.trans Sub.r) d e1 p1 fun u' x' ρ2 H2 F2 a2 b2 g2 d1 d2 tm' e2 s2 p2 => ?_
  have tm2 := tm.step (g1.sub (Sub.r.trans Sub.r)) s2 d
  cases q : oa.get u ρ2 with
  | none => simp only [q] at p2; exact p2.elim
  | some v =>
    simp only [q, Option.bind_some] at p2
    cases q' : ob.get u' ρ2 with
    | none => simp only [q'] at p2; exact p2.elim
    | some w =>
      simp only [q', Option.bind_some] at p2
      cases q3 : l v w with
      | none => simp only [q3] at p2; exact p2.elim
      | some z =>
        simp only [q3, Res.of_some, Res.bind_ok] at p2
        obtain ⟨dv, sv, rv'⟩ := tm2.get e2 q
        obtain ⟨dw, sw, rw'⟩ := tm'.get e2 q'
        refine hl v w z x x' H2 F2 _ _ _ (g2.sub Sub.emp) rv' rw' q3 ?_
        refine ⟨z, rfl, ?_⟩
        cases z with
        | false =>
          rw [if_neg Bool.false_ne_true] at p2 ⊢
          exact hq _ _ (p2.now g2 (Sub.r.trans Sub.r) rfl e2)
        | true =>
          rw [if_pos rfl] at p2 ⊢
          refine tO.next (t := a2) (b := b2) g2 (Sub.l.trans Sub.r) (Sub.r.trans Sub.r) d2 e2 p2 fun u3 x3 ρ3 H3 F3 a3 b3 g3 d3 d4 tm3 e3 s3 p3 => ?_
          have tm4 := tm'.step (g2.sub (Sub.r.trans Sub.r)) s3 d2
          cases q4 : ob.get u' ρ3 with
          | none => simp only [q4] at p3; exact p3.elim
          | some w2 =>
            simp only [q4, Option.bind_some] at p3
            cases q5 : od.get u3 ρ3 with
            | none => simp only [q5] at p3; exact p3.elim
            | some y =>
              simp only [q5, Option.bind_some] at p3
              cases q6 : m w2 y with
              | none => simp only [q6] at p3; exact p3.elim
              | some z2 =>
                simp only [q6, Res.of_some] at p3
                obtain ⟨dw2, sw2, rw2⟩ := tm4.get e3 q4
                obtain ⟨dy, sy, ry⟩ := tm3.get e3 q5
                refine hm w2 y z2 x' x3 H3 F3 _ _ _ (g3.sub Sub.emp) rw2 ry q6 ?_
                exact hq _ _ (p3.now g3 (Sub.r.trans Sub.r) rfl e3)
theorem st_ch {op op' : CmpOp} {r r' : R2} {l m : PV → PV → Option Bool} (ho : OpR X (compareOp op) r) (ho' : OpR X (compareOp op') r') (hl : C2 c r l) (hm : C2 c r' m) (ha : SO X c W a oa) (hb : SO X c W b ob) (hd : SO X c W d od)
    (hk : lastMarks [op, op'] [b, d] = false := by with_unfolding_all rfl) : ST X c W (.Compare a [op, op'] [b, d] pos) (tCh l m oa ob od) :=
  PT.weak (pt_chain ho ho' ha hb hd hk) fun σ H Q q => ch_q hl hm (fun z H h => ⟨z, rfl, h⟩) q
theorem lm2 {op op' : CmpOp} (b d : Expr) (h : op' ≠ .In := by decide) (h2 : op' ≠ .NotIn := by decide) : lastMarks [op, op'] [b, d] = false := by
  unfold lastMarks
  exact nomark d h h2
theorem t_lele (D : Ds X c) (ha : SO X c W a oa) (hb : SO X c W b ob) (hd : SO X c W d od) : ST X c W (.Compare a [.LtE, .LtE] [b, d] pos) (tCh cLe cLe oa ob od) := st_ch op_le op_le k_le k_le ha hb hd (lm2 b d)
/-! built-ins -/
theorem e_len {p} (D : Ds X c) (hm : X.mg "len" = none) (hg : Gl X "len") (ha : SO X c W a oa) (st : starEach [a] X.env = (false, eval a X.env) :: starEach [] X.env := by rfl) (he : (backTo pos (starEach [] X.env)).any (·.1) = false := by rfl) : SE X c W (.Call (.Name "len" p) [a] [] pos) (eP1 fLen oa) := se_call1 call_lenAll (by rw [D.K]; exact k_len) hg hm (by decide +kernel) ha (by decide) (by decide) st he
theorem e_abs {p} (D : Ds X c) (hm : X.mg "abs" = none) (hg : Gl X "abs") (ha : SO X c W a oa) (st : starEach [a] X.env = (false, eval a X.env) :: starEach [] X.env := by rfl) (he : (backTo pos (starEach [] X.env)).any (·.1) = false := by rfl) : SE X c W (.Call (.Name "abs" p) [a] [] pos) (eP1 fAbs oa) := se_call1 call_abs k_abs hg hm (by decide +kernel) ha (by decide) (by decide) st he
theorem e_int {p} (D : Ds X c) (hm : X.mg "int" = none) (hg : Gl X "int") (ha : SO X c W a oa) (st : starEach [a] X.env = (false, eval a X.env) :: starEach [] X.env := by rfl) (he : (backTo pos (starEach [] X.env)).any (·.1) = false := by rfl) : SE X c W (.Call (.Name "int" p) [a] [] pos) (eP1 fInt oa) := se_ty1 call_int1 k_int hg hm (by decide +kernel) ha (by decide) (by decide) st he
theorem e_max2 {p} (D : Dk X c W k) (hm : X.mg "max" = none) (hg : Gl X "max") (ha : SO X c W a oa) (hb : SO X c W b ob) (st : starEach [a, b] X.env = (false, eval a X.env) :: starEach [b] X.env := by rfl) (st2 : starEach [b] X.env = (false, eval b X.env) :: starEach [] X.env := by rfl) (he : (backTo pos (starEach [b] X.env)).any (·.1) = false := by rfl) : SE X c W (.Call (.Name "max" p) [a, b] [] pos) (eP2 fMax2 oa ob) := se_call2 (call_max2 D.calm) k_max2 hg hm (by decide +kernel) ha hb (by decide) (by decide) st st2 he
theorem e_min2 {p} (D : Dk X c W k) (hm : X.mg "min" = none) (hg : Gl X "min") (ha : SO X c W a oa) (hb : SO X c W b ob) (st : starEach [a, b] X.env = (false, eval a X.env) :: starEach [b] X.env := by rfl) (st2 : starEach [b] X.env = (false, eval b X.env) :: starEach [] X.env := by rfl) (he : (backTo pos (starEach [b] X.env)).any (·.1) = false := by rfl) : SE X c W (.Call (.Name "min" p) [a, b] [] pos) (eP2 fMin2 oa ob) := se_call2 (call_min2 D.calm) k_min2 hg hm (by decide +kernel) ha hb (by decide) (by decide) st st2 he
theorem e_all {p} (D : Dk X c W k) (hm : X.mg "all" = none) (hg : Gl X "all") (ha : SO X c W a oa) (st : starEach [a] X.env = (false, eval a X.env) :: starEach [] X.env := by rfl) (he : (backTo pos (starEach [] X.env)).any (·.1) = false := by rfl) : SE X c W (.Call (.Name "all" p) [a] [] pos) (eP1 fAll oa) := se_call1 (cr_all D.calm) (by rw [D.K]; exact k_all) hg hm (by decide +kernel) ha (by decide) (by decide) st he
theorem e_list {p} (D : Ds X c) (hm : X.mg "list" = none) (hg : Gl X "list") (ha : SO X c W a oa) (st : starEach [a] X.env = (false, eval a X.env) :: starEach [] X.env := by rfl) (he : (backTo pos (starEach [] X.env)).any (·.1) = false := by rfl) : SE X c W (.Call (.Name "list" p) [a] [] pos) (eP1 fList oa) := se_ty1 call_list_of (by rw [D.K]; exact k_list) hg hm (by decide +kernel) ha (by decide) (by decide) st he
theorem e_tuple {p} (D : Ds X c) (hm : X.mg "tuple" = none) (hg : Gl X "tuple") (ha : SO X c W a oa) (st : starEach [a] X.env = (false, eval a X.env) :: starEach [] X.env := by rfl) (he : (backTo pos (starEach [] X.env)).any (·.1) = false := by rfl) : SE X c W (.Call (.Name "tuple" p) [a] [] pos) (eP1 fTuple oa) := se_ty1 call_tupleB (by rw [D.K]; exact k_tuple) hg hm (by decide +kernel) ha (by decide) (by decide) st he
theorem e_ix (D : Ds X c) (ha : SO X c W a oa) (hb : SO X c W b ob) (hs : PlainIx b) : SE X c W (.Subscript a b pos) (eP2 ix oa ob) := se_ix D.K ha hb hs
theorem e_sl (D : Ds X c) {lo hi : Option Expr} {p2 : Pos} {fl fh : Option EF} (ha : SO X c W a oa) (hl : SB X c W lo fl) (hh : SB X c W hi fh) : SE X c W (.Subscript a (.Slice lo hi none p2) pos) (eSl oa fl fh) := se_sl D.K ha hl hh
theorem e_isa (D : Ds X c) {p p2 : Pos} {xT : Str} (T : Ty) (hm : X.mg "isinstance" = none) (hg : Gl X "isinstance") (hmT : X.mg xT = none) (hgT : Gl X xT) (hb : bootBuiltins xT = some (.type (tyN T))) (hn : xT ≠ "__name__") (hd : (xT == ("__debug__" : Str)) = false) (ha : SO X c W a oa)
    (st : starEach [a, .Name xT p2] X.env = (false, eval a X.env) :: starEach [.Name xT p2] X.env := by rfl) (st2 : starEach [.Name xT p2] X.env = (false, eval (.Name xT p2) X.env) :: starEach [] X.env := by rfl) (he : (backTo pos (starEach [.Name xT p2] X.env)).any (·.1) = false := by rfl) :
    SE X c W (.Call (.Name "isinstance" p) [a, .Name xT p2] [] pos) (eT (tPV (isA T) oa)) := se_isa D.K ha (pe_bltn hgT hmT hb rfl hn hd) hg hm st st2 he
/-! a module's constant -/
def GlobOk (c : RC) (mg : Str → Option Value) (x : Str) (z : PV) : Prop := ∃ v u, mg x = some u ∧ RelV v u ∧ ∀ H F, R c H F z v Emp
theorem e_glob {x : Str} {z : PV} (G : GlobOk c X.mg x z) (hg : Gl X x) (hd : (x == ("__debug__" : Str)) = false := by decide) : SE X c W (.Name x pos) (eC z) := by
  obtain ⟨v, u, h1, h2, h3⟩ := G
  exact se_of (pe_glob hg h1 h2 hd) h3
theorem glob_str {mg : Str → Option Value} {x z : Str} (hz : sOk z = true) (h : ∃ t, mg x = some (.str z t)) : GlobOk c mg x (.str z) := by
  obtain ⟨t, h⟩ := h
  exact ⟨.str z, _, h, ⟨_, rfl⟩, fun _ _ => ⟨rfl, hz⟩⟩
/-! calls of defs -/
/-- a def as it stands behind the top, and what it does -/
def Def (P : Program) (w : World) (K : PySem.W.Frag) (mg : Str → Option Value) (base : Heap) (c : RC) (k : Nat) (x : Str) (st : Stmt) (ps : List Str) (sem : FF) : Prop :=
  ∃ f fd, mg x = some (.ref f) ∧ Fun K x x st f fd ∧ Binds K fd ps [] ∧ FnG P w K mg base (L2.CX P w) k f fd ps (spF c ps.length sem)
variable {j : Nat} {x : Str} {p : Pos} {e : Expr} {es : List Expr} {os : List Opd} {sem : FF} {st : Stmt} {ps : List Str}
theorem e_call (D : Dk X c W j) (G : Def X.prog X.w X.K X.mg X.base c k x st ps sem) (hr : k ≤ j) (hg : Gl X x)
    (ha : SOs X c W (e :: es) os) (hn : os.length = ps.length) (hdb : (x == ("__debug__" : Str)) = false := by decide) (he : starEach (e :: es) X.env = (false, eval e X.env) :: starEach es X.env := by rfl) (hpl : (backTo pos (starEach es X.env)).any (·.1) = false := by rfl) :
    SE X c W (.Call (.Name x p) (e :: es) [] pos) (eCall sem os []) := by
  obtain ⟨f, fd, h1, h2, h3, h4⟩ := G
  exact se_call D h4 hr hg h1 h2.kp h3 .nil (fun _ _ => rfl) ha (by rw [hn]; rfl) hdb he hpl
end
end Tr
set_option Elab.async false
set_option linter.all false
set_option maxRecDepth 100000
set_option maxHeartbeats 4000000
/-! Tr.X: calls with keywords. -/
namespace Tr
open PySem PySem.Spec L2
/-- the items at those places -/
def gP {α : Type} (p : List Nat) (xs : List α) : List α := p.filterMap (xs[·]?)
/-- a def whose arguments come in another order; q: the way back -/
def permF (p q : List Nat) (sem : FF) : FF := fun as => match sem (gP p as) with
  | .ok v ws => .ok v (gP q ws)
  | .er e ws => .er e (gP q ws)
  | .bad => .bad
def PermOk (n : Nat) (p q : List Nat) : Prop := p.Perm (List.range n) ∧ q.Perm (List.range n) ∧ gP q p = List.range n
instance {n : Nat} {p q : List Nat} : Decidable (PermOk n p q) := by unfold PermOk; exact inferInstance
theorem gP_range {α : Type} (xs : List α) : gP (List.range xs.length) xs = xs := by
  have go : ∀ n, n ≤ xs.length → gP (List.range n) xs = xs.take n := by
    intro n
    induction n with
    | zero => intro _; simp [gP]
    | succ n ih =>
      intro h
      have h2 : n < xs.length := h
      unfold gP at ih ⊢
      rw [List.range_succ, List.filterMap_append, ih (by omega), List.take_succ]
      simp [h2]
  rw [go _ (Nat.le_refl _), List.take_length]
theorem gP_perm {α : Type} {p : List Nat} {n : Nat} (h : p.Perm (List.range n)) {xs : List α} (l : xs.length = n) : (gP p xs).Perm xs := by
  subst l
  have := h.filterMap (xs[·]?)
  have e := gP_range xs
  unfold gP at e ⊢
  rw [e] at this
  exact this
section
variable {c : RC} {H : Hp} {F : AS}
/-- the trees and the values, in pairs -/
def Rz (c : RC) (H : Hp) (F : AS) (zs : List (PV × V)) (a : AS) : Prop := Rs c H F (zs.map (·.1)) (zs.map (·.2)) a
theorem Rz.perm {zs ys : List (PV × V)} (h : zs.Perm ys) : ∀ {a : AS}, Rz c H F zs a → Rz c H F ys a := by
  induction h with
  | nil => exact fun h => h
  | cons x _ ih =>
    rintro a ⟨v, vs', b, d, e, s1, s2, k, r, rs⟩
    cases e
    exact ⟨_, _, b, d, rfl, s1, s2, k, r, ih rs⟩
  | swap x y l =>
    rintro a ⟨v, vs', b, d, e, s1, s2, k, r, v2, vs2, b2, d2, e2, t1, t2, k2, r2, rs⟩
    cases e; cases e2
    refine ⟨_, _, b2, Uni b d2, rfl, t1.trans s2, Sub.uni s1 (t2.trans s2), ?_, r2, _, _, b, d2, rfl, Sub.l, Sub.r, ?_, r, rs⟩
    · intro q y z
      rcases z with z | z
      · exact k q z (t1 q y)
      · exact k2 q y z
    · exact fun q y z => k q y (t2 q z)
  | trans _ _ ih1 ih2 => exact fun h => ih2 (ih1 h)
theorem gP_zip {p : List Nat} : ∀ {xs : List PV} {vs : List V}, xs.length = vs.length → gP p (xs.zip vs) = (gP p xs).zip (gP p vs) ∧ (gP p xs).length = (gP p vs).length := by
  intro xs vs l
  unfold gP
  induction p with
  | nil => exact ⟨rfl, rfl⟩
  | cons i p ih =>
    by_cases h : i < xs.length
    · have h2 : i < vs.length := by omega
      have hz : (xs.zip vs)[i]? = some (xs[i], vs[i]) := by
        rw [List.getElem?_eq_getElem (by rw [List.length_zip]; omega), List.getElem_zip]
      simp only [List.filterMap_cons, hz, List.getElem?_eq_getElem h, List.getElem?_eq_getElem h2, List.zip_cons_cons, List.length_cons]
      exact ⟨by rw [ih.1], by rw [ih.2]⟩
    · have h2 : ¬ i < vs.length := by omega
      have hz : (xs.zip vs)[i]? = none := List.getElem?_eq_none (by rw [List.length_zip]; omega)
      simp only [List.filterMap_cons, hz, List.getElem?_eq_none (Nat.le_of_not_lt h), List.getElem?_eq_none (Nat.le_of_not_lt h2)]
      exact ih
theorem Rs.perm {p : List Nat} {n : Nat} (h : p.Perm (List.range n)) {xs : List PV} {vs : List V} {a : AS} (l : vs.length = n) (r : Rs c H F xs vs a) : Rs c H F (gP p xs) (gP p vs) a := by
  have l2 : xs.length = vs.length := r.len.symm
  have hz : (xs.zip vs).length = n := by rw [List.length_zip]; omega
  have q := (gP_perm h hz).symm
  have r1 : Rz c H F (xs.zip vs) a := by
    unfold Rz
    rw [List.map_fst_zip (by omega), List.map_snd_zip (by omega)]
    exact r
  have r2 := Rz.perm q r1
  obtain ⟨e1, e2⟩ := gP_zip (p := p) l2
  rw [e1] at r2
  unfold Rz at r2
  rw [List.map_fst_zip (by omega), List.map_snd_zip (by omega)] at r2
  exact r2
theorem gP_back {α : Type} {n : Nat} {p q : List Nat} (h : PermOk n p q) {xs : List α} (l : xs.length = n) : gP q (gP p xs) = xs := by
  obtain ⟨hp, hq, e⟩ := h
  subst l
  -- (gP p xs)[i]? = xs[p[i]]?
  have lt : ∀ i ∈ p, i < xs.length := fun i hi => List.mem_range.mp (hp.mem_iff.mp hi)
  have at_ : ∀ (p : List Nat), (∀ i ∈ p, i < xs.length) → ∀ i : Nat, (gP p xs)[i]? = (p[i]?).bind (fun j : Nat => xs[j]?) := by
    intro p
    induction p with
    | nil => intro _ i; rfl
    | cons j p ih =>
      intro hl i
      have hj : j < xs.length := hl j List.mem_cons_self
      have e : gP (j :: p) xs = xs[j] :: gP p xs := by
        unfold gP
        simp only [List.filterMap_cons, List.getElem?_eq_getElem hj]
      rw [e]
      cases i with
      | zero => simp [hj]
      | succ i => simpa using ih (fun i h => hl i (List.mem_cons_of_mem _ h)) i
  have e2 : ∀ q : List Nat, gP q (gP p xs) = gP (gP q p) xs := by
    intro q
    induction q with
    | nil => rfl
    | cons i q ih =>
      have e1 := at_ p lt i
      cases h : p[i]? with
      | none =>
        rw [h] at e1
        have a1 : gP (i :: q) (gP p xs) = gP q (gP p xs) := by unfold gP at e1 ⊢; simp only [List.filterMap_cons, e1]; rfl
        have a2 : gP (i :: q) p = gP q p := by unfold gP; simp only [List.filterMap_cons, h]
        rw [a1, a2, ih]
      | some j =>
        rw [h] at e1
        have hj : j < xs.length := lt j (List.mem_of_getElem? h)
        have e3 : (gP p xs)[i]? = some xs[j] := by rw [e1]; simp [hj]
        have a1 : gP (i :: q) (gP p xs) = xs[j] :: gP q (gP p xs) := by unfold gP at e3 ⊢; simp only [List.filterMap_cons, e3]
        have a2 : gP (i :: q) p = j :: gP q p := by unfold gP; simp only [List.filterMap_cons, h]
        have a3 : gP (j :: gP q p) xs = xs[j] :: gP (gP q p) xs := by
          conv => lhs; unfold gP
          simp only [List.filterMap_cons, List.getElem?_eq_getElem hj]
          rfl
        rw [a1, a2, a3, ih]
  rw [e2 q]
  rw [e]
  exact gP_range xs
theorem spF_perm {n : Nat} {p q : List Nat} (h : PermOk n p q) {sem : FF} {xs : List V} {Q : VK} {E : XK} (s : spF c n (permF p q sem) xs H Q E) : spF c n sem (gP p xs) H Q E := by
  obtain ⟨l, vs, F, A, g, r, k⟩ := s
  have lp : (gP p xs).length = n := by rw [(gP_perm h.1 l).length_eq, l]
  refine ⟨lp, gP p vs, F, A, g, r.perm h.1 l, ?_⟩
  unfold permF at k
  cases q : sem (gP p vs) with
  | ok v ws =>
    simp only [q] at k ⊢
    refine fun x H' F' a b t g1 d rv rw' => k x H' F' a b t g1 d rv ?_
    have := rw'.perm h.2.1 lp
    rw [gP_back h l] at this
    exact this
  | er e ws =>
    simp only [q] at k ⊢
    refine fun cls d H' F' b t g1 rx rw' => k cls d H' F' b t g1 rx ?_
    have := rw'.perm h.2.1 lp
    rw [gP_back h l] at this
    exact this
  | bad => simp only [q] at k
end
section
variable {c : RC} {W : WX}
theorem tO.imp {o : Opd} {σ : L2.St} {H : Hp} {Q Q' : VK} (h : tO c W o σ H Q) (k : ∀ x H, Q x H → Q' x H) : tO c W o σ H Q' := by
  cases o with
  | nm i => obtain ⟨v, e, q⟩ := h; exact ⟨v, e, k _ _ q⟩
  | ev f => exact tG.imp (rel := relE c) h k
theorem tOs.imp : ∀ {os : List Opd} {σ : L2.St} {H : Hp} {K K' : List V → Hp → Prop}, tOs c W os σ H K → (∀ x H, K x H → K' x H) → tOs c W os σ H K'
  | [], _, _, _, _, h, k => k _ _ h
  | o :: os, _, _, _, _, h, k => tO.imp (o := o) h fun _ _ q => tOs.imp q fun _ _ q => k _ _ q
theorem tOs.len : ∀ {os : List Opd} {σ : L2.St} {H : Hp} {K : List V → Hp → Prop}, tOs c W os σ H K → tOs c W os σ H fun xs H1 => xs.length = os.length ∧ K xs H1
  | [], σ, H, K, h => ⟨rfl, h⟩
  | o :: os, σ, H, K, h => tO.imp (o := o) h fun x H1 q => (tOs.len q).imp fun xs H2 q2 => ⟨by rw [List.length_cons, List.length_cons, q2.1], q2.2⟩
theorem tOs.two : ∀ {os os2 : List Opd} {σ : L2.St} {H : Hp} {K : List V → Hp → Prop}, tOs c W (os ++ os2) σ H K → tOs c W os σ H fun xs H1 => xs.length = os.length ∧ tOs c W os2 σ H1 fun ys H2 => K (xs ++ ys) H2
  | [], os2, σ, H, K, h => ⟨rfl, h⟩
  | o :: os, os2, σ, H, K, h => tO.imp (o := o) h fun x H1 q => (tOs.two q).imp fun xs H2 q2 => ⟨by rw [List.length_cons, List.length_cons, q2.1], q2.2⟩
end
section
variable {X : Cx} {c : RC} {W : WX} {j k : Nat} {x : Str} {p pos : Pos} {e : Expr} {es : List Expr} {os os2 : List Opd} {sem : FF} {st : Stmt} {ps ks : List Str} {kws : List Keyword} {pp qq : List Nat} {nm : Option Str} {kpos : Pos} {o : Opd}
def SK (X : Cx) (c : RC) (W : WX) (kws : List Keyword) (os : List Opd) : Prop := PK X kws (tOs c W os)
theorem sk_nil : SK X c W [] [] := pk_nil
theorem sk_cons (h : SO X c W e o) (hs : SK X c W kws os) : SK X c W (⟨nm, e, kpos⟩ :: kws) (o :: os) := pk_cons h hs
theorem Vals.perm {vs : List V} {us : List Value} (h : Vals vs us) (p : List Nat) : Vals (gP p vs) (gP p us) := by
  have l := h.length
  unfold gP
  induction p with
  | nil => exact .nil
  | cons i p ih =>
    by_cases hi : i < vs.length
    · have h2 : i < us.length := by omega
      simp only [List.filterMap_cons, List.getElem?_eq_getElem hi, List.getElem?_eq_getElem h2]
      obtain ⟨u, e, r⟩ := h.get (List.getElem?_eq_getElem hi)
      rw [List.getElem?_eq_getElem h2] at e; cases e
      exact .cons r ih
    · have h2 : ¬ i < us.length := by omega
      simp only [List.filterMap_cons, List.getElem?_eq_none (Nat.le_of_not_lt hi), List.getElem?_eq_none (Nat.le_of_not_lt h2)]
      exact ih
end
end Tr
/-! Tr: raise, try, on trees. -/
set_option autoImplicit false
namespace Tr
/-- an except clause: the classes that it takes, its name's slot, its suite -/
abbrev Hd := List Nat × Option Nat × SF
/-- behind a suite: its name is gone; a suite raises nothing -/
def suiteEnd (o : Option Nat) (r : SR) : SR := match r with
  | .er _ _ => .bad
  | r => match o with
    | none => r
    | some i => after r fun ρ => ρ.set i none
def runHd : List Hd → PExc → Env → SR
  | [], e, ρ => .er e ρ
  | (ks, o, s) :: hs, e, ρ => if ks.contains e.cls then suiteEnd o (s (match o with | none => ρ | some i => ρ.set i (some (.exc e.cls e.vals)))) else runHd hs e ρ
/-- n: how many classes -/
def sTry (n : Nat) (body : SF) (hs : List Hd) : SF := fun ρ => match body ρ with
  | .er e ρ1 => if e.cls < n then runHd hs e ρ1 else .bad
  | r => r
/-- raise C(..), C without fields -/
def sRaise0 (k : Nat) (g : AF) : SF := fun ρ => sOf (g ρ) fun _ ρ1 => .er ⟨k, []⟩ ρ1
/-- raise C(..), C with fields, the last one first -/
def sRaise (k : Nat) (g : AF) : SF := fun ρ => sOf (g ρ) fun vs ρ1 => .er ⟨k, (frzs vs).reverse⟩ ρ1
/-- e.f, the j-th field -/
def xfld (k j : Nat) : PV → Option PV
  | .exc k' vs => if k' = k then vs[j]? else none
  | _ => none
/-- isinstance(e, ..): ks the classes that are one of these, n: how many there are -/
def isaX (n : Nat) (ks : List Nat) : PV → Option Bool
  | .exc k _ => if k < n then some (ks.contains k) else none
  | _ => none
end Tr
set_option Elab.async false
set_option linter.all false
set_option maxRecDepth 100000
set_option maxHeartbeats 4000000
/-! Tr.T: try: body, except C (as n): suite .. -/
namespace Tr
open PySem PySem.Spec PyProof.Rows L2
section
variable {X : Cx} {pins : List (Addr × Obj)} {σ : L2.St} {H : Hp} {s : Shared} {a : Addr}
/-- an object of this frame's own time is tracked from now on -/
theorem Inv.track (I : L2.Inv X pins σ H s) {ph : Heap → Prop} (h0 : X.s_0.heap.get? a = none) (na : H a = none) (nl : a ≠ X.env.locals) (nc : ∀ x cc, X.env.cells.lookup x = some cc → cc ≠ a) (np : ∀ p ∈ X.pn ++ pins, p.1 ≠ a)
    (ok : ObjOk X.prog X.w (upd H a (.ext ph)) s.heap a (.ext ph)) : L2.Inv X pins σ (upd H a (.ext ph)) s := by
  have nb : ∀ b o, X.s_0.heap.get? b = some o → b ≠ a := fun b o e z => by rw [z, h0] at e; cases e
  have nt : ∀ b u, H b = some u → b ≠ a := fun b u e z => by rw [z, na] at e; cases e
  have sw : ∀ b u, H b = some u → upd H a (.ext ph) b = some u := fun b u e => by rw [upd_ne (nt b u e)]; exact e
  refine ⟨I.ok, I.os, I.bare, ?_, I.loc, I.cell, ?_, ?_, ?_, ?_, I.len⟩
  · refine ⟨I.base.keep, I.base.slot, ?_, I.base.there, ?_, ?_, ?_⟩
    · intro b o e n x
      rw [upd_ne (nb b o e)]
      exact I.base.free b o e n x
    · exact fun b xs e => sw _ _ (I.base.tups b xs e)
    · exact fun b o u e => sw _ _ (I.base.frzs b o u e)
    · intro b ps e
      obtain ⟨m, z⟩ := I.base.tbls b ps e
      exact ⟨m, sw _ _ z⟩
  · rw [upd_ne (Ne.symm nl)]; exact I.free
  · intro x cc e
    rw [upd_ne (nc x cc e)]; exact I.freeC x cc e
  · intro p hp
    obtain ⟨h1, h2, h3⟩ := I.pin p hp
    exact ⟨h1, by rw [upd_ne (np p hp)]; exact h2, h3⟩
  · intro b u e
    by_cases hb : b = a
    · subst hb
      rw [upd_same] at e; cases e
      exact ok
    · rw [upd_ne hb] at e
      exact (I.hok b u e).stay (fun _ _ _ z => z) (fun q z => sw _ _ z) fun q xs z => sw _ _ z
end
/-- the clauses and their functions -/
inductive HdOk (c : RC) (fx : Nat → Bool) (n : Nat) (X : Cx) : List ExceptHandler → List Hd → Prop
  | nil : HdOk c fx n X [] []
  | cons {x : Str} {np pos : Pos} {b : Stmt} {bs : List Stmt} {hds : List ExceptHandler} {l : List Hd} {j : Nat} {ks : List Nat} {s : SF} (hg : Names X x (.ref (c.cA j)))
      (ht : ∀ i, i < n → PySem.W.exmOne X.K (.ref (c.cA i)) (.ref (c.cA j)) = some (ks.contains i)) (hsu : ∀ a pn, SSs c W0 fx (X.suite a pn) (b :: bs) s) (r : HdOk c fx n X hds l) :
      HdOk c fx n X (.ExceptHandler (some (.Name x np)) none (b :: bs) pos :: hds) ((ks, none, s) :: l)
  | consAs {x nn : Str} {np pos : Pos} {b : Stmt} {bs : List Stmt} {hds : List ExceptHandler} {l : List Hd} {i j : Nat} {ks : List Nat} {s : SF} (hi : X.N[i]? = some nn) (hl : X.env.kindOf nn = some .local) (hf : fx i = false) (hg : Names X x (.ref (c.cA j)))
      (ht : ∀ i, i < n → PySem.W.exmOne X.K (.ref (c.cA i)) (.ref (c.cA j)) = some (ks.contains i)) (hsu : ∀ a pn, SSs c W0 fx (X.suite a pn) (b :: bs) s) (r : HdOk c fx n X hds l) :
      HdOk c fx n X (.ExceptHandler (some (.Name x np)) (some nn) (b :: bs) pos :: hds) ((ks, some i, s) :: l)
/-- what is wished of an exception of the body -/
def wTry (c : RC) (W : WX) (fx : Nat → Bool) (n : Nat) (l : List Hd) (σ0 : L2.St) (H0 : Hp) (F0 A0 : AS) (D : Ends) : WX := fun cls d σ H =>
  ∃ e ρ F A, Stp H0 F0 A0 H F A ∧ Keep fx σ0 σ ∧ Good H F A ∧ RX c H F e cls d ∧ RE c H F ρ σ A ∧ e.cls < n ∧ PostS c W fx σ0 H0 F0 A0 (runHd l e ρ) D
section
variable {X : Cx} {c : RC} {W : WX} {fx : Nat → Bool} {k n : Nat} {body : List Stmt} {h0 : ExceptHandler} {hds : List ExceptHandler} {l : List Hd} {pos : Pos} {s : SF}
theorem suite_rx {H : Hp} {F A : AS} {ρ : Env} {σ : L2.St} {e : PExc} {cls : Value} {d : Option Addr} {a : Addr} (g : Good H F A) (rx : RX c H F e cls d) (re : RE c H F ρ σ A) (na : H a = none) :
    Stp H F A (upd H a (exv a (c.cA e.cls) d)) (Uni F (fun q => q = a)) A ∧ Good (upd H a (exv a (c.cA e.cls) d)) (Uni F (fun q => q = a)) A ∧ RE c (upd H a (exv a (c.cA e.cls) d)) (Uni F (fun q => q = a)) ρ σ A ∧ R c (upd H a (exv a (c.cA e.cls) d)) (Uni F (fun q => q = a)) (.exc e.cls e.vals) (.ref a) Emp := by
  have nt : ∀ b u, H b = some u → b ≠ a := fun b u e z => by rw [z, na] at e; cases e
  have st : ∀ B, Stp H F B (upd H a (exv a (c.cA e.cls) d)) (Uni F (fun q => q = a)) B := fun B => {
    keep := fun p o h _ => by rw [upd_ne (nt p o h)]; exact h
    live := fun p h => by
      by_cases z : p = a
      · rw [z]; exact na
      · rw [upd_ne z] at h; exact h
    mono := fun p h => .inl h
    newF := fun p h => h.elim .inl fun z => .inr (.inl (by rw [z]; exact na))
    newA := fun p h => .inr h }
  have gg : Good (upd H a (exv a (c.cA e.cls) d)) (Uni F (fun q => q = a)) A := ⟨fun p h => by
      obtain ⟨h1, o, h2, h3⟩ := g.own p h
      exact ⟨fun z => z.elim h1 (nt p o h2), o, by rw [upd_ne (nt p o h2)]; exact h2, h3⟩, fun p h => by
      rcases h with h | h
      · obtain ⟨o, h2⟩ := g.fro p h
        exact ⟨o, by rw [upd_ne (nt p o h2)]; exact h2⟩
      · exact ⟨_, by rw [h]; exact upd_same⟩⟩
  have ge : Good H F Emp := g.sub Sub.emp
  have re2 : RE c (upd H a (exv a (c.cA e.cls) d)) (Uni F (fun q => q = a)) ρ σ A := RE.step ge (st Emp) re Dis.empr
  refine ⟨st A, gg, re2, ?_⟩
  obtain ⟨e1, e2⟩ := rx
  by_cases hv : e.vals = []
  · rw [if_pos hv] at e2
    exact ⟨a, d, [], rfl, ⟨upd_same, .inr rfl⟩, .inl ⟨hv, e2⟩, by rw [hv]; exact rfl⟩
  · rw [if_neg hv] at e2
    obtain ⟨dd, vs, h1, h2, h3, h4⟩ := e2
    refine ⟨a, d, vs, rfl, ⟨upd_same, .inr rfl⟩, .inr ⟨dd, h1, h2, by rw [upd_ne (nt _ _ h3)]; exact h3⟩, ?_⟩
    exact Rs.step ge (st Emp) h4 Dis.empl
theorem exv_ok {P : Program} {w : World} {H : Hp} {h : Heap} {a C : Addr} {d : Option Addr} {o : Obj} {vs : Array Value} (e : h.get? a = some o) (hz : Zc (.ref C) d o) (hd : o.data = .fields vs) : ObjOk P w H h a (exv a C d) :=
  ⟨⟨o, vs, e, hz.1, hz.2, hd⟩, ⟨o, e⟩, fun _ _ ⟨o', vs', e', x1, x2, x3⟩ k => ⟨o', vs', k _ e', x1, x2, x3⟩⟩
theorem Inv.suite0 {pins : List (Addr × Obj)} {σ : L2.St} {H : Hp} {s : Shared} (I : L2.Inv X pins σ H s) (a : Addr) : L2.Inv (X.suite a (X.pn ++ pins)) [] σ H s :=
  ⟨I.ok.suite _ _, I.os, I.bare, I.base, I.loc, I.cell, I.free, I.freeC, fun p hp => by rw [List.append_nil] at hp; exact I.pin p hp, I.hok, I.len⟩
theorem Inv.unsuite0 {pins pn' : List (Addr × Obj)} {σ : L2.St} {H : Hp} {s : Shared} {a : Addr} (I : L2.Inv (X.suite a (X.pn ++ pins)) pn' σ H s) (ok : X.Ok) : L2.Inv X pins σ H s :=
  ⟨ok, I.os, I.bare, I.base, I.loc, I.cell, I.free, I.freeC, fun p hp => I.pin p (List.mem_append_left _ hp), I.hok, I.len⟩
theorem suite_none {σ σ1 : L2.St} {H H1 : Hp} {F A F1 A1 : AS} {r : SR} {D : Ends} (p : PostS c W fx σ H F A (suiteEnd none r) D) (st : Stp H F A H1 F1 A1) (kp : Keep fx σ σ1) : PostS c W0 fx σ1 H1 F1 A1 r D := by
  cases r with
  | er e ρ => exact (show False from p).elim
  | nx ρ => exact PostS.base (W := W0) (c := c) (fx := fx) (r := .nx ρ) p st kp
  | bk ρ => exact PostS.base (W := W0) (c := c) (fx := fx) (r := .bk ρ) p st kp
  | ct ρ => exact PostS.base (W := W0) (c := c) (fx := fx) (r := .ct ρ) p st kp
  | rt v ρ => exact PostS.base (W := W0) (c := c) (fx := fx) (r := .rt v ρ) p st kp
  | bad => exact p
/-- the ends, once the name in slot i is gone -/
def goneD (i : Nat) (D : Ends) : Ends := { nx := fun σ H => D.nx (σ.set i none) H, rt := D.rt, bk := fun σ H => D.bk (σ.set i none) H, ct := fun σ H => D.ct (σ.set i none) H }
theorem RE.gone {H : Hp} {F a : AS} {ρ : Env} {σ : L2.St} (i : Nat) (h : RE c H F ρ σ a) : RE c H F (ρ.set i none) (σ.set i none) a := RE.wipeσ i (RE.wipe i h)
theorem suite_some {i : Nat} {σ σ1 : L2.St} {H H1 : Hp} {F A F1 A1 : AS} {r : SR} {D : Ends} (hf : fx i = false) (p : PostS c W fx σ H F A (suiteEnd (some i) r) D) (st : Stp H F A H1 F1 A1) (kp : Keep fx σ σ1) : PostS c W0 fx σ1 H1 F1 A1 r (goneD i D) := by
  cases r with
  | er e ρ => exact (show False from p).elim
  | nx ρ => exact fun σ2 H2 F2 b t g e k => p _ _ _ _ (st.trans t) g (RE.gone i e) ((kp.trans k).trans (Keep.set hf))
  | bk ρ => exact fun σ2 H2 F2 b t g e k => p _ _ _ _ (st.trans t) g (RE.gone i e) ((kp.trans k).trans (Keep.set hf))
  | ct ρ => exact fun σ2 H2 F2 b t g e k => p _ _ _ _ (st.trans t) g (RE.gone i e) ((kp.trans k).trans (Keep.set hf))
  | rt v ρ => exact fun x σ2 H2 F2 a b t g d r e k => p x _ _ _ a b (st.trans t) g d r (RE.gone i e) ((kp.trans k).trans (Keep.set hf))
  | bad => exact p
/-- THE RULE: try: body, except C (as n): suite .. -/
theorem ss_try (D : Dk X c W k) (hb : ∀ W' pn xe, Dk (X.tr pn xe) c W' k → SSs c W' fx (X.tr pn xe) body s) (hh : HdOk c fx n X (h0 :: hds) l)
    (hs : X.stack = X.env :: X.outer := by rfl) (hf : X.env.frame = some X.env.locals := by rfl) (hx : X.ex = [] := by rfl) : SS c W fx X (.Try body (h0 :: hds) [] [] pos) (sTry n s l) := by
  refine ⟨fun pins s0 σ H En I q => ?_⟩
  obtain ⟨ρ, F, A, g, e, p⟩ := q
  have ok := I.ok
  have fr0 : X.A.frames = some (X.env :: X.outer) := by rw [ok.frames, hs]
  refine wpAny_Try_except ?_
  have run := (hb (wTry c W fx n l σ H F A En) (X.pn ++ pins) (fun u s₁ => wpAny (model X.prog X.w) X.A (noteFrame u X.env) (fun _ s₂ => wpAny (model X.prog X.w) X.A (setFlight u none)
      (fun _ s₃ => wpAny (model X.prog X.w) X.A (handleBy u X.env (h0 :: hds)) (SP X pins En) X.xe s₃) X.xe s₂) X.xe s₁) ⟨D.K, D.hr, D.calm, D.nd, ?tk, PassesOwn.looking, D.gd⟩).run [] s0 σ H En (I.toTry _) ⟨ρ, F, A, g, e, ?body⟩
  case body =>
    unfold sTry at p
    cases r : s ρ with
    | er x ρ1 =>
      rw [r] at p
      simp only at p
      by_cases hn : x.cls < n
      · rw [if_pos hn] at p
        exact fun cls d σ1 H1 F1 b t g1 rx e1 kp => ⟨x, ρ1, F1, b, t, kp, g1, rx, e1, hn, p⟩
      · rw [if_neg hn] at p
        exact (show False from p).elim
    | nx ρ1 => rw [r] at p; exact p
    | bk ρ1 => rw [r] at p; exact p
    | ct ρ1 => rw [r] at p; exact p
    | rt v ρ1 => rw [r] at p; exact p
    | bad => rw [r] at p; exact p
  case tk =>
    rintro u s' ⟨a, B, sI, pins', σ1, H1, cls, d, rfl, J', nb, up, sky, na, os, ag, w⟩
    have J : L2.Inv X pins σ1 H1 sI := J'.ofTry ok
    obtain ⟨x, ρ1, F1, A1, st, kp, g1, rx, e1, hn, p1⟩ := w
    have sky1 : Sky B (X.env :: X.outer) a (Zc cls d) X.env.locals s'.heap := hs ▸ sky
    refine Sky.land Zc.steady fr0 hf sky1 fun h3 fl3 up3 => ?_
    obtain ⟨oe3, vs3, he3, hz3, hd3⟩ := fl3.there
    have J3 : L2.Inv X pins σ1 H1 { s' with heap := h3 } := J.landed nb fl3.1 (up.trans up3) os ag
    have nfr : a ∉ frs (X.env :: X.outer) := fun hm => by
      obtain ⟨_, o', e', hnf⟩ := fl3.2.2.1.mem hm
      rw [he3] at e'; cases e'
      exact hnf _ hd3
    have nL : a ≠ X.env.locals := fun z => nfr (List.mem_filterMap.mpr ⟨X.env, List.mem_cons_self, by rw [hf, z]⟩)
    have nI : sI.heap.get? a = none := by
      cases q : sI.heap.get? a with
      | none => rfl
      | some o =>
        have := nb a o q (by rw [hs]; exact nfr)
        rw [fl3.2.1] at this; cases this
    have n0 : X.s_0.heap.get? a = none := by
      cases q : X.s_0.heap.get? a with
      | none => rfl
      | some o =>
        obtain ⟨o', q'⟩ := J.base.there a o q (by rw [hx]; exact List.not_mem_nil)
        rw [nI] at q'; cases q'
    have np : ∀ y ∈ X.pn ++ pins, y.1 ≠ a := fun y hy z => by
      have := (J.pin y hy).1
      rw [z, nI] at this; cases this
    have ecls : cls = .ref (c.cA x.cls) := rx.1
    have go : ∀ {hds' : List ExceptHandler} {l' : List Hd}, HdOk c fx n X hds' l' → PostS c W fx σ H F A (runHd l' x ρ1) En →
        wpAny (model X.prog X.w) X.A (handleBy (.ref a) X.env hds') (SP X pins En) X.xe { s' with heap := h3 } := by
      intro hds' l' hk
      have LT : PySem.W.Looks (model X.prog X.w) h3 (typeOf (.ref a)) cls := fun A' Q' E' s'' kk q => wpAny_typeOf_ref (kk _ _ he3) (by rw [hz3.1]; exact q)
      have S3 : L2.Inv (X.suite a (X.pn ++ pins)) [] σ1 H1 { s' with heap := h3 } := Inv.suite0 J3 a
      have name : ∀ {y : Str} {np' : Pos} {cv : Value} {Q : Value → Shared → Prop} {E : Value → Shared → Prop}, Names X y cv → Q cv { s' with heap := h3 } → wpAny (model X.prog X.w) (X.A.mark (some (.ref a))) (eval (.Name y np') X.env) Q E { s' with heap := h3 } := fun hc q => by
        obtain ⟨hg, hdbg, hm | ⟨hm, hv, hnn⟩⟩ := hc
        · exact ld_glob S3 hg hm q hdbg
        · exact ld_blt S3 hg hm hv q hnn hdbg
      -- the suite's start
      have enter : ∀ {h4 : Heap}, HandSPX.FlyingZ B (X.env :: X.outer) a (Zc cls d) h4 → h3.UpToSlots h4 → L2.Inv (X.suite a (X.pn ++ pins)) [] σ1 (upd H1 a (exv a (c.cA x.cls) d)) { s' with heap := h4 } := fun {h4} fl4 up4 => by
        obtain ⟨oe4, vs4, he4, hz4, hd4⟩ := fl4.there
        have J4 : L2.Inv X pins σ1 H1 { s' with heap := h4 } := J.landed nb fl4.1 ((up.trans up3).trans up4) os ag
        refine Inv.track (Inv.suite0 J4 a) n0 na nL (fun y cc ec z => ?_) (fun y hy => np y (by rw [List.append_nil] at hy; exact hy)) (exv_ok he4 (ecls ▸ hz4) hd4)
        obtain ⟨v, o', q1, q2⟩ := J4.cell y cc ec
        rw [z] at q1
        rw [show h4.get? a = some oe4 from he4] at q1; cases q1
        rw [hd4] at q2; cases q2
      induction hk with
      | nil =>
        intro pp
        refine wpAny_handleBy_nil ?_
        have leave : wpAny (model X.prog X.w) X.A (setFlight (.ref a) X.env.frame) (fun _ s4 => wpAny (model X.prog X.w) X.A (throw (.ref a) : Sem Flow) (SP X pins En) X.xe s4) X.xe { s' with heap := h3 } := by
          rw [hf]
          refine HandSPX.setFlight_upZ fl3 fun h4 hh4 up4 => wpAny_throw (D.tk _ _ ?_)
          exact ⟨a, B, sI, pins, σ1, H1, cls, d, rfl, J, nb, (up.trans up3).trans up4, .inr (.inr (by rw [hs]; exact hh4)), na, os, ag, pp cls d σ1 H1 F1 A1 st g1 rx e1 kp⟩
        obtain ⟨_, _, _, oe, vs, T, oT, ts', q1, _, q2, q3, _⟩ := id fl3
        unfold PySem.passOn
        refine wpAny_bind (wpAny_field q1 q2 q3 ?_)
        rw [if_neg (show ¬ ((Value.ref T == Value.none) = true) from by simp)]
        first
          | exact wpAny_bind (wpAny_pure (wpAny_bind leave))
          | exact wpAny_bind leave
      | @cons y np' ps b bs hds2 l2 j ks s2 hg ht hsu r ih =>
        intro pp
        have hex : PySem.W.exmOne X.K cls (.ref (c.cA j)) = some (ks.contains x.cls) := by rw [ecls]; exact ht _ hn
        have LM := PySem.W.exm_one (M := model X.prog X.w) J3.kIn LT hex
        refine wpAny_handleBy_cons (codeAny_handlers_test (name hg (LM.here ?_))) (by intro q; cases q)
        unfold runHd at pp
        by_cases hc : ks.contains x.cls = true
        · rw [if_pos hc] at pp
          rw [hc]
          refine codeAny_handlers_suite (HandSPX.lands_againZ fl3 fun h4 fl4 up4 => ?_)
          obtain ⟨t1, t2, t3, t4⟩ := suite_rx g1 rx e1 na
          refine wpAny_mono ((hsu a (X.pn ++ pins)).run [] _ σ1 _ En (enter fl4 up4) ⟨ρ1, _, A1, t2, t3, suite_none pp (st.trans t1) kp⟩) (fun f s6 hsp => ?_) (fun _ _ z => False.elim z)
          cases f with
          | next => obtain ⟨σ6, H6, S6, q6⟩ := hsp; exact ⟨_, _, Inv.unsuite0 S6 ok, q6⟩
          | brk => obtain ⟨σ6, H6, S6, q6⟩ := hsp; exact ⟨_, _, Inv.unsuite0 S6 ok, q6⟩
          | cont => obtain ⟨σ6, H6, S6, q6⟩ := hsp; exact ⟨_, _, Inv.unsuite0 S6 ok, q6⟩
          | ret u => obtain ⟨v6, σ6, H6, S6, r6, q6⟩ := hsp; exact ⟨_, _, _, Inv.unsuite0 S6 ok, r6, q6⟩
        · rw [if_neg hc] at pp
          rw [Bool.eq_false_iff.mpr hc]
          exact ih pp
      | @consAs y nn np' ps b bs hds2 l2 i j ks s2 hi hl hfi hg ht hsu r ih =>
        intro pp
        have hex : PySem.W.exmOne X.K cls (.ref (c.cA j)) = some (ks.contains x.cls) := by rw [ecls]; exact ht _ hn
        have LM := PySem.W.exm_one (M := model X.prog X.w) J3.kIn LT hex
        refine wpAny_handleBy_cons (codeAny_handlers_test (name hg (LM.here ?_))) (by intro q; cases q)
        unfold runHd at pp
        by_cases hc : ks.contains x.cls = true
        · rw [if_pos hc] at pp
          rw [hc]
          refine codeAny_handlers_suite_as (HandSPX.lands_againZ fl3 fun h4 fl4 up4 => ?_)
          obtain ⟨t1, t2, t3, t4⟩ := suite_rx g1 rx e1 na
          refine store_ok (X := X.suite a (X.pn ++ pins)) (v := .ref a) (enter fl4 up4) D.nd hi (.inl hl) rfl (fun s5 S5 => ?_) (.inr hl)
          have e5 := RE.storeAny (i := i) t3 t4 Dis.empl
          have e6 := e5.mono (Sub.uni Sub.emp (Sub.refl A1))
          refine wpAny_mono ((hsu a (X.pn ++ pins)).run [] s5 _ _ (goneD i En) S5 ⟨_, _, A1, t2, e6, suite_some hfi pp (st.trans t1) (kp.trans (Keep.set hfi))⟩) (fun f s6 hsp => ?_) (fun _ _ z => False.elim z)
          cases f with
          | next => obtain ⟨σ6, H6, S6, q6⟩ := hsp; exact gone_ok (Inv.unsuite0 S6 ok) D.nd hi hl fun s7 J7 => ⟨_, _, J7, q6⟩
          | brk => obtain ⟨σ6, H6, S6, q6⟩ := hsp; exact gone_ok (Inv.unsuite0 S6 ok) D.nd hi hl fun s7 J7 => ⟨_, _, J7, q6⟩
          | cont => obtain ⟨σ6, H6, S6, q6⟩ := hsp; exact gone_ok (Inv.unsuite0 S6 ok) D.nd hi hl fun s7 J7 => ⟨_, _, J7, q6⟩
          | ret u => obtain ⟨v6, σ6, H6, S6, r6, q6⟩ := hsp; exact gone_ok (Inv.unsuite0 S6 ok) D.nd hi hl fun s7 J7 => ⟨_, _, _, J7, r6, q6⟩
        · rw [if_neg hc] at pp
          rw [Bool.eq_false_iff.mpr hc]
          exact ih pp
    exact go hh p1
  refine wpAny_mono run (fun f s1 hsp => ?_) (fun _ _ he => he)
  cases f with
  | next => obtain ⟨σ', H', J', q⟩ := hsp; exact wpAny_execs_nil ⟨σ', H', J'.ofTry ok, q⟩
  | brk => obtain ⟨σ', H', J', q⟩ := hsp; exact ⟨σ', H', J'.ofTry ok, q⟩
  | cont => obtain ⟨σ', H', J', q⟩ := hsp; exact ⟨σ', H', J'.ofTry ok, q⟩
  | ret u => obtain ⟨v, σ', H', J', r, q⟩ := hsp; exact ⟨v, σ', H', J'.ofTry ok, r, q⟩
end
end Tr
set_option Elab.async false
set_option linter.all false
set_option maxRecDepth 100000
set_option maxHeartbeats 4000000
/-! Tr.T2: raise C(..), e.f, isinstance(e, C). -/
namespace Tr
open PySem PySem.Spec PyProof.Rows L2
/-- the own exception class j, called x -/
structure XT (K : PySem.W.Frag) (mg : Str → Option Value) (c : RC) (j : Nat) (x : Str) : Prop where
  mg : mg x = some (.ref (c.cA j))
  sub : PySem.W.subIn K (.ref (c.cA j)) (.type "BaseException") = some true
  ty : PySem.W.typeIn K (.ref (c.cA j)) = some (.type "type")
  kp : PySem.W.keepIn K (.ref (c.cA j)) = true
  cl : PySem.W.isClsIn K (c.cA j) = true
  hd : PySem.W.hasDictIn K (c.cA j) = true
  ga : PySem.W.findIn K (.ref (c.cA j)) "__getattribute__" = some (some (.builtin "BaseException.__getattribute__"))
  gg : PySem.W.findIn K (.ref (c.cA j)) "__getattr__" = some none
  ca : PySem.W.findIn K (.ref (c.cA j)) "__class__" = some (some (.builtin "object.__class__"))
  mo : PySem.W.mroIn K (c.cA j) (.type "object") = some true
/-- said once -/
structure XG (K : PySem.W.Frag) : Prop where
  sp : PySem.W.specialIn K (.builtin "object.__class__") "__get__" = some (some (.builtin "getset_descriptor.__get__"))
  tk : PySem.W.takesIn K (.builtin "object.__class__") = some true
/-- the classes below n that are, or come from, the one called u: ks -/
def XS (K : PySem.W.Frag) (c : RC) (n : Nat) (u : Value) (ks : List Nat) : Prop := ∀ i, i < n → PySem.W.subIn K (.ref (c.cA i)) u = some (ks.contains i)
section
variable {K : PySem.W.Frag} {mg : Str → Option Value} {c : RC} {n j : Nat} {x : Str} {ks : List Nat}
theorem XS.exm (h : XS K c n (.ref (c.cA j)) ks) (T : XT K mg c j x) : ∀ i, i < n → PySem.W.exmOne K (.ref (c.cA i)) (.ref (c.cA j)) = some (ks.contains i) := fun i hi => by
  have e2 : ((PySem.W.clsIn K (c.cA j)).isSome && PySem.W.typeIn K (.ref (c.cA j)) == some (.type "type")) = true := by
    rw [show (PySem.W.clsIn K (c.cA j)).isSome = true from T.cl, T.ty] <;> rfl
  unfold PySem.W.exmOne PySem.W.kitCls
  rw [if_pos (by rw [T.sub] <;> rfl)]
  dsimp only
  rw [if_pos e2]
  exact h i hi
theorem XS.kit (h : XS K c n (.ref (c.cA j)) ks) (T : XT K mg c j x) (hj : j < n) (hk : ks.contains j = true) : ∀ i, i < n → PySem.W.kitOne K (.ref (c.cA i)) (.ref (c.cA j)) = some (ks.contains i) := fun i hi => by
  have e2 : ((PySem.W.clsIn K (c.cA j)).isSome && PySem.W.typeIn K (.ref (c.cA j)) == some (.type "type")) = true := by
    rw [show (PySem.W.clsIn K (c.cA j)).isSome = true from T.cl, T.ty] <;> rfl
  unfold PySem.W.kitOne PySem.W.kitCls
  split
  · rename_i e
    have e' : c.cA i = c.cA j := Value.ref.inj (beq_iff_eq.mp e)
    have h1 := h i hi
    have h2 := h j hj
    rw [e', h2] at h1
    rw [hk] at h1
    exact h1
  · dsimp only
    rw [if_pos e2]
    exact h i hi
theorem XS.kitT {T : String} (h : XS K c n (.type T) ks) (hm : PySem.W.kitMeta T = true) : ∀ i, i < n → PySem.W.kitOne K (.ref (c.cA i)) (.type T) = some (ks.contains i) := fun i hi => by
  unfold PySem.W.kitOne PySem.W.kitCls
  rw [if_neg (by simp)]
  dsimp only
  rw [if_pos hm]
  exact h i hi
/-- one of several classes -/
def XA (K : PySem.W.Frag) (c : RC) (n : Nat) (us : List Value) (ks : List Nat) : Prop := ∀ i, i < n → PySem.W.kitAny K (.ref (c.cA i)) us = some (ks.contains i)
theorem xa_nil : XA K c n [] [] := fun i hi => rfl
theorem xa_cons {u : Value} {us : List Value} {ks ls : List Nat} (h : ∀ i, i < n → PySem.W.kitOne K (.ref (c.cA i)) u = some (ks.contains i)) (r : XA K c n us ls) : XA K c n (u :: us) (ks ++ ls) := fun i hi => by
  unfold PySem.W.kitAny
  rw [h i hi]
  have e : (ks ++ ls).contains i = (ks.contains i || ls.contains i) := by simp [List.contains_eq_any_beq]
  cases q : ks.contains i with
  | true => rw [e, q]; rfl
  | false => rw [e, q]; exact (r i hi).trans (by rfl)
end
section
variable {X : Cx} {c : RC} {W : WX} {k n : Nat} {o : Expr} {oo : Opd} {pos p p2 p3 pos' : Pos}
/-! ### e.f -/
def tXv (K : PySem.W.Frag) (C : Addr) (f : Str) (to : TE) : TE := fun σ H Q => to σ H fun x H1 => ∃ a dd fs v, x = .ref a ∧ H1 a = some (exv a C (some dd)) ∧ H1 dd = some (.xd fs) ∧ fs.lookup f = some v ∧ Q v H1
theorem exv_at {P : Program} {w : World} {H : Hp} {h : Heap} {a C : Addr} {d : Option Addr} (I : HOk P w H h) (e : H a = some (exv a C d)) : ∃ oe vs, h.get? a = some oe ∧ oe.cls = .ref C ∧ oe.dict = d ∧ oe.data = .fields vs :=
  (show ObjOk P w H h a (exv a C d) from I a _ e).1
theorem pe_xv {to : TE} {f : Str} {C : Addr} (ga : PySem.W.findIn X.K (.ref C) "__getattribute__" = some (some (.builtin "BaseException.__getattribute__"))) (gg : PySem.W.findIn X.K (.ref C) "__getattr__" = some none)
    (sub : PySem.W.subIn X.K (.ref C) (.type "BaseException") = some true) (hd : PySem.W.hasDictIn X.K C = true) (no : PySem.W.findIn X.K (.ref C) f = some none) (he : PE X o to) (hb : attributeBase o f X.env (eval o X.env) = eval o X.env := by rfl) :
    PE X (.Attribute o f pos) (tXv X.K C f to) := by
  refine ⟨fun pins s σ H Q I h => attr_of hb (thn (he.run pins s σ H _ I h) fun u s1 hh => ?_)⟩
  obtain ⟨x, H1, I1, rx, a, dd, fs, v, rfl, ea, ed, l, q⟩ := hh
  obtain rfl : u = Value.ref a := rx
  obtain ⟨oe, vs, h1, h2, h3, h4⟩ := exv_at I1.hok ea
  obtain ⟨mA, hns, hr⟩ := (show ObjOk X.prog X.w H1 s1.heap dd (.xd fs) from I1.hok dd _ ed)
  obtain ⟨od, ho, hl⟩ := lookIn_ns hns
  obtain ⟨u, hu, ru⟩ := RelO.some_of (v := v) (o := mA f) (by rw [← l]; exact hr f)
  have J : PySem.W.InstAt s1.heap a oe C (some od) := ⟨h1, h2, by unfold PySem.W.notCls; rw [h4] <;> rfl, by rw [h3]; exact ho⟩
  exact HandSPX.exc_get I1.kIn J ga gg sub (PySem.W.findObj_own hd no rfl (by rw [hl, hu])) (handed_of ru) ⟨v, H1, I1.tok _, ru, q⟩
theorem lookup_zip : ∀ {fs : List Str} {vs : List V} {j : Nat} {f : Str}, fs[j]? = some f → (∀ i, i < j → fs[i]? ≠ some f) → (fs.zip vs).lookup f = vs[j]?
  | [], vs, j, f, h, _ => by simp at h
  | g :: fs, [], j, f, h, _ => by simp
  | g :: fs, v :: vs, 0, f, h, _ => by
    simp at h; subst h
    simp [List.lookup]
  | g :: fs, v :: vs, j + 1, f, h, n => by
    have ne : (f == g) = false := by
      have := n 0 (by omega)
      simp at this
      simpa using fun e => this e.symm
    rw [List.zip_cons_cons, List.lookup_cons, ne]
    have := lookup_zip (vs := vs) (j := j) (f := f) (by simpa using h) (fun i hi => by simpa using n (i + 1) (by omega))
    simpa using this
/-- e.f, f the j-th field of the class number kk -/
theorem e_xfld {kk j : Nat} {x f : Str} {fs : List Str} (D : Ds X c) (T : XT X.K X.mg c kk x) (hF : c.cF kk = fs) (hj : fs[j]? = some f) (hd : ∀ i, i < j → fs[i]? ≠ some f) (no : PySem.W.findIn X.K (.ref (c.cA kk)) f = some none)
    (ho : SO X c W o oo) (hb : attributeBase o f X.env (eval o X.env) = eval o X.env := by rfl) : SE X c W (.Attribute o f pos) (eP1 (xfld kk j) oo) := by
  refine PE.weak (pe_xv T.ga T.gg T.sub T.hd no ho hb) fun σ H Q q => ?_
  refine tO.one q fun v x y ρ1 H1 F1 A1 b g sb e ⟨a, sa, r⟩ kq p => ?_
  cases v with
  | exc k2 vals =>
    simp only [xfld] at kq
    split at kq
    · rename_i ek
      subst ek
      obtain ⟨pa, d, vs, rfl, ⟨h1, h2⟩, z, rs⟩ := r
      rcases z with ⟨z1, z2⟩ | ⟨dd, rfl, l, h3⟩
      · rw [z1] at kq; simp at kq
      · obtain ⟨w, bb, e1, _, rw'⟩ := rs.get kq
        refine ⟨pa, dd, _, w, rfl, h1, h3, ?_, ?_⟩
        · rw [hF, lookup_zip hj hd]; exact e1
        · exact Post.now p g sb (rs.getV kq e1) e
    · cases kq
  | non => cases kq
  | bl _ => cases kq
  | int _ => cases kq
  | str _ => cases kq
  | tup _ => cases kq
  | lst _ _ => cases kq
  | dct _ _ _ => cases kq
  | ins _ _ _ => cases kq
  | con _ => cases kq
  | st _ _ => cases kq
/-! ### isinstance(e, C) -/
theorem exv_kit {C : Addr} {x : Str} {j : Nat} (T : XT X.K X.mg c j x) (G : XG X.K) {P : Program} {w : World} {H : Hp} {h : Heap} {a : Addr} {d : Option Addr} (I : HOk P w H h) (e : H a = some (exv a (c.cA j) d)) (hdd : ∀ dd, d = some dd → ∃ fs, H dd = some (.xd fs)) :
    ∃ ox od, PySem.W.KitX X.K (.ref a) (.ref (c.cA j)) (fun h => PySem.W.InstAt h a ox (c.cA j) od) ∧ PySem.W.InstAt h a ox (c.cA j) od := by
  obtain ⟨oe, vs, h1, h2, h3, h4⟩ := exv_at I e
  have nc : PySem.W.notCls oe = true := by unfold PySem.W.notCls; rw [h4] <;> rfl
  cases d with
  | none => exact ⟨oe, none, PySem.W.kitx_exc T.cl T.ga T.gg T.sub T.ca G.sp G.tk T.mo, h1, h2, nc, by rw [h3]; trivial⟩
  | some dd =>
    obtain ⟨fs, hf⟩ := hdd dd rfl
    obtain ⟨mA, ⟨od, _, _, ho, _⟩, _⟩ := (show ObjOk P w H h dd (.xd fs) from I dd _ hf)
    exact ⟨oe, some od, PySem.W.kitx_exc T.cl T.ga T.gg T.sub T.ca G.sp G.tk T.mo, h1, h2, nc, by rw [h3]; exact ho⟩
/-- x is an exception of the class j -/
def IsX (c : RC) (H : Hp) (x : V) (j : Nat) : Prop := ∃ a d, x = .ref a ∧ H a = some (exv a (c.cA j) d) ∧ ∀ dd, d = some dd → ∃ fs, H dd = some (.xd fs)
/-- the classes below n -/
def XAll (K : PySem.W.Frag) (mg : Str → Option Value) (c : RC) (n : Nat) : Prop := ∀ j, j < n → ∃ x, XT K mg c j x
def rIX1 (c : RC) (K : PySem.W.Frag) (n : Nat) : List V → Hp → VK → Prop := fun xs H Q => ∃ (x cv : V) (u : Value) (j : Nat) (b : Bool), xs = [x, cv] ∧ ClsV cv u ∧ j < n ∧ IsX c H x j ∧ PySem.W.kitOne K (.ref (c.cA j)) u = some b ∧ Q (.bl b) H
def rIXT (c : RC) (K : PySem.W.Frag) (n : Nat) : List V → Hp → VK → Prop := fun xs H Q => ∃ (x : V) (tp : Addr) (cs : List V) (us : List Value) (j : Nat) (b : Bool), xs = [x, .ref tp] ∧ H tp = some (.tup cs) ∧ Paired ClsV cs us ∧ j < n ∧ IsX c H x j ∧ PySem.W.kitAny K (.ref (c.cA j)) us = some b ∧ Q (.bl b) H
theorem cr_ix1 (A : XAll X.K X.mg c n) (G : XG X.K) : CallR X (.builtin "isinstance") (rIX1 c X.K n) := by
  intro pins s σ H xs us Q I r h
  obtain ⟨x, cv, u, j, b, rfl, k, hj, ⟨a, d, rfl, ha, hdd⟩, e, q⟩ := h
  obtain ⟨u1, u2, rfl, r1, r2⟩ := vals2 r
  have e2 := k.eq r2
  subst e2
  obtain ⟨y, T⟩ := A j hj
  obtain ⟨ox, od, Z, p⟩ := exv_kit (X := X) (C := 0) T G I.hok ha hdd
  cases (show u1 = Value.ref a from r1)
  exact PySem.W.kia_one Z I.kIn p e (fun z => nomatch z) fun tk => ⟨.bl b, H, I.tok tk, rfl, q⟩
theorem cr_ixT (A : XAll X.K X.mg c n) (G : XG X.K) : CallR X (.builtin "isinstance") (rIXT c X.K n) := by
  intro pins s σ H xs us Q I r h
  obtain ⟨x, tp, cs, ws, j, b, rfl, hT, k, hj, ⟨a, d, rfl, ha, hdd⟩, e, q⟩ := h
  obtain ⟨u1, u2, rfl, r1, r2⟩ := vals2 r
  cases (show u2 = Value.ref tp from r2)
  obtain ⟨y, T⟩ := A j hj
  obtain ⟨ox, od, Z, p⟩ := exv_kit (X := X) (C := 0) T G I.hok ha hdd
  obtain ⟨_, its, rv, o, h1, h2, m, h3⟩ := (show ObjOk X.prog X.w H s.heap tp (.tup cs) from I.hok tp _ hT)
  have e3 := ClsV.all k rv
  subst e3
  obtain ⟨oc, od', dt, sl⟩ := o
  simp only at h2 h3
  subst h2 h3
  cases (show u1 = Value.ref a from r1)
  exact PySem.W.kia_tup Z I.kIn p h1 e (fun z => nomatch z) fun tk => ⟨.bl b, H, I.tok tk, rfl, q⟩
/-- a class as an expression -/
def tCls (v : V) : TE := fun σ H Q => Q v H
structure CE (X : Cx) (e : Expr) (v : V) (u : Value) : Prop where
  pe : PE X e (tCls v)
  cv : ClsV v u
theorem ce_ty {T : String} {x : Str} (hg : Gl X x) (hm : X.mg x = none) (hb : bootBuiltins x = some (.type T)) (hn : x ≠ "__name__" := by decide) (hd : (x == ("__debug__" : Str)) = false := by decide) : CE X (.Name x pos) (.ty T) (.type T) :=
  ⟨PE.weak (pe_bltn (v := .ty T) hg hm hb rfl hn hd) fun _ _ _ q => q, .ty T⟩
theorem ce_own {j : Nat} {x : Str} (T : XT X.K X.mg c j x) (hg : Gl X x) (hd : (x == ("__debug__" : Str)) = false := by decide) : CE X (.Name x pos) (.ref (c.cA j)) (.ref (c.cA j)) :=
  ⟨PE.weak (pe_glob hg T.mg (v := .ref (c.cA j)) rfl hd) fun _ _ _ q => q, .own _⟩
theorem isx_of {H : Hp} {F A : AS} {k2 : Nat} {vals : List PV} {x : V} (r : R c H F (.exc k2 vals) x A) : IsX c H x k2 := by
  obtain ⟨pa, d, vs, rfl, ⟨h1, _⟩, z, _⟩ := r
  refine ⟨pa, d, rfl, h1, fun dd ed => ?_⟩
  rcases z with ⟨_, z2⟩ | ⟨d2, e2, _, h3⟩
  · rw [z2] at ed; cases ed
  · rw [e2] at ed; cases ed; exact ⟨_, h3⟩
/-- isinstance(e, C) -/
theorem e_ix1 {cE : Expr} {cv : V} {u : Value} {ks : List Nat} (A : XAll X.K X.mg c n) (G : XG X.K) (hm : X.mg "isinstance" = none) (hg : Gl X "isinstance") (C : CE X cE cv u) (hk : ∀ i, i < n → PySem.W.kitOne X.K (.ref (c.cA i)) u = some (ks.contains i)) (ho : SO X c W o oo)
    (st : starEach [o, cE] X.env = (false, eval o X.env) :: starEach [cE] X.env := by rfl) (st2 : starEach [cE] X.env = (false, eval cE X.env) :: starEach [] X.env := by rfl) (he : (backTo pos (starEach [cE] X.env)).any (·.1) = false := by rfl) :
    SE X c W (.Call (.Name "isinstance" p) [o, cE] [] pos) (eT (tPV (isaX n ks) oo)) := by
  refine PE.weak (pe_callB (cr_ix1 A G) hg hm (by decide +kernel) (pa_cons ho (pa_cons C.pe pa_nil st2) st) (by decide) (by decide) st he) fun σ H Q q => ?_
  refine tO.one (eT_bl q) fun v x y ρ1 H1 F1 A1 b g sb e ⟨a, sa, r⟩ kq p => ?_
  cases v with
  | exc k2 vals =>
    simp only [isaX] at kq
    split at kq
    · rename_i hlt
      cases kq
      exact ⟨x, cv, u, k2, _, rfl, C.cv, hlt, isx_of r, hk _ hlt, p.now g sb rfl e⟩
    · cases kq
  | non => cases kq
  | bl _ => cases kq
  | int _ => cases kq
  | str _ => cases kq
  | tup _ => cases kq
  | lst _ _ => cases kq
  | dct _ _ _ => cases kq
  | ins _ _ _ => cases kq
  | con _ => cases kq
  | st _ _ => cases kq
end
end Tr
set_option Elab.async false
set_option linter.all false
set_option maxRecDepth 100000
set_option maxHeartbeats 4000000
/-! Tr.T3: isinstance(e, (C, D)); raise. -/
namespace Tr
open PySem PySem.Spec PyProof.Rows L2
section
variable {X : Cx} {c : RC} {W : WX} {k n : Nat} {o : Expr} {oo : Opd} {pos p p2 p3 pos' : Pos} {fx : Nat → Bool}
/-- classes, written in a tuple -/
structure CEs (X : Cx) (es : List Expr) (vs : List V) (us : List Value) : Prop where
  pa : PA X es (fun σ H Q => Q vs H)
  cv : Paired ClsV vs us
theorem ces_nil : CEs X [] [] [] := ⟨pa_nil, .nil⟩
theorem ces_cons {e : Expr} {es : List Expr} {v : V} {u : Value} {vs : List V} {us : List Value} (h : CE X e v u) (r : CEs X es vs us) (st : starEach (e :: es) X.env = (false, eval e X.env) :: starEach es X.env := by rfl) : CEs X (e :: es) (v :: vs) (u :: us) :=
  ⟨PA.weak (pa_cons h.pe r.pa st) fun _ _ _ q => q, .cons h.cv r.cv⟩
/-- isinstance(e, (C, D)) -/
theorem e_ixT {es : List Expr} {tk} {tp : Pos} {vs : List V} {us : List Value} {ks : List Nat} (A : XAll X.K X.mg c n) (G : XG X.K) (hm : X.mg "isinstance" = none) (hg : Gl X "isinstance") (C : CEs X es vs us) (hl : vs.length ≤ sizeLine) (hk : XA X.K c n us ks) (ho : SO X c W o oo)
    (st : starEach [o, .Tuple es tk tp] X.env = (false, eval o X.env) :: starEach [.Tuple es tk tp] X.env := by rfl) (st2 : starEach [.Tuple es tk tp] X.env = (false, eval (.Tuple es tk tp) X.env) :: starEach [] X.env := by rfl) (he : (backTo pos (starEach [.Tuple es tk tp] X.env)).any (·.1) = false := by rfl) :
    SE X c W (.Call (.Name "isinstance" p) [o, .Tuple es tk tp] [] pos) (eT (tPV (isaX n ks) oo)) := by
  refine PE.weak (pe_callB (cr_ixT A G) hg hm (by decide +kernel) (pa_cons ho (pa_cons (pe_tup C.pa) pa_nil st2) st) (by decide) (by decide) st he) fun σ H Q q => ?_
  refine tO.one (eT_bl q) fun v x y ρ1 H1 F1 A1 b g sb e ⟨a, sa, r⟩ kq pp => ?_
  refine ⟨hl, fun t ht => ?_⟩
  cases v with
  | exc k2 vals =>
    simp only [isaX] at kq
    split at kq
    · rename_i hlt
      cases kq
      obtain ⟨pa, d, rfl, h1, h2⟩ := isx_of r
      have nt : ∀ q u, H1 q = some u → q ≠ t := fun q u e z => by rw [z, ht] at e; cases e
      refine ⟨_, t, vs, us, k2, _, rfl, upd_same, C.cv, hlt, ⟨pa, d, rfl, by rw [upd_ne (nt _ _ h1)]; exact h1, fun dd ed => ?_⟩, hk _ hlt, ?_⟩
      · obtain ⟨fs, h3⟩ := h2 dd ed
        exact ⟨fs, by rw [upd_ne (nt _ _ h3)]; exact h3⟩
      · have s1 : Stp H1 F1 Emp (upd H1 t (.tup vs)) F1 Emp := Stp.newT ht
        refine pp _ _ F1 Emp b ((Stp.newT ht).drop (Sub.uni Sub.emp sb)) ((g.newT ht).sub (Sub.uni Sub.emp sb)) Dis.empl rfl (RE.step (g.sub Sub.emp) s1 e Dis.empr)
    · cases kq
  | non => cases kq
  | bl _ => cases kq
  | int _ => cases kq
  | str _ => cases kq
  | tup _ => cases kq
  | lst _ _ => cases kq
  | dct _ _ _ => cases kq
  | ins _ _ _ => cases kq
  | con _ => cases kq
  | st _ _ => cases kq
/-! ### raise -/
theorem Stp.raise {H : Hp} {F a b : AS} {d : Addr} {o : HO} (hd : H d = none) : Stp H F (Uni a b) (upd H d o) (Uni F a) b := by
  have nt : ∀ q u, H q = some u → q ≠ d := fun q u e z => by rw [z, hd] at e; cases e
  refine ⟨fun p u e _ => by rw [upd_ne (nt p u e)]; exact e, fun p e => ?_, fun p h => .inl h, fun p h => h.elim .inl fun z => .inr (.inr (.inl z)), fun p h => .inr (.inr h)⟩
  by_cases z : p = d
  · rw [z]; exact hd
  · rw [upd_ne z] at e; exact e
theorem Stp.raise1 {H : Hp} {F a b : AS} : Stp H F (Uni a b) H (Uni F a) b :=
  ⟨fun p u e _ => e, fun p e => e, fun p h => .inl h, fun p h => h.elim .inl fun z => .inr (.inr (.inl z)), fun p h => .inr (.inr h)⟩
theorem Good.raise1 {H : Hp} {F a b : AS} (g : Good H F (Uni a b)) (d : Dis a b) : Good H (Uni F a) b :=
  ⟨fun p h => by
    obtain ⟨h1, o, h2, h3⟩ := g.own p (.inr h)
    exact ⟨fun z => z.elim h1 fun z => d p z h, o, h2, h3⟩, fun p h => h.elim (g.fro p) fun z => by
    obtain ⟨_, o, h2, _⟩ := g.own p (.inl z)
    exact ⟨o, h2⟩⟩
theorem Good.raise {H : Hp} {F a b : AS} {d : Addr} {o : HO} (g : Good H F (Uni a b)) (dd : Dis a b) (hd : H d = none) : Good (upd H d o) (Uni F a) b := (Good.raise1 g dd).newT hd
/-- what a class's own __init__ promises: its fields stand in its dict, the last one first -/
def spI (K : PySem.W.Frag) (C : Addr) (fl : List Str) : Sp := fun vs H Q _ => ∃ a ys, vs = .ref a :: ys ∧ ys.length = fl.length ∧ OexC K C ∧ H a = some (exo a C none) ∧
  ∀ dx H', H dx = none → dx ≠ a → H' = upd (upd H dx (exd dx ((fl.zip ys).reverse))) a (exo a C (some dx)) → Q .non H'
theorem rd_I1 {K : PySem.W.Frag} {C : Addr} {f : Str} {vs : List V} {H : Hp} {Q : VK} {E : XK} {D : Ends} {σ : L2.St} (hno : PySem.W.findIn K (.ref C) f = some none) (h : spI K C [f] vs H Q E) (hσ : σ = vs.map some) (hD : ∀ σ H', Q .non H' → D.nx σ H') : tOst K f (tVar 0) (tVar 1) D σ H := by
  obtain ⟨a, ys, rfl, hl, T, ha, q⟩ := h
  match ys, hl with
  | [y], _ =>
    subst hσ
    exact ⟨y, rfl, .ref a, rfl, a, C, rfl, T, hno, .inl ⟨ha, fun dx h1 h2 => hD _ _ (q dx _ h1 h2 rfl)⟩⟩
theorem rev_zip {α β : Type} : ∀ {xs : List α} {ys : List β}, xs.length = ys.length → (xs.zip ys).reverse = xs.reverse.zip ys.reverse
  | [], [], _ => rfl
  | x :: xs, y :: ys, h => by
    have h' : xs.length = ys.length := by simpa using h
    rw [List.zip_cons_cons, List.reverse_cons, List.reverse_cons, List.reverse_cons, List.zip_append (by simpa using h'), rev_zip h']
    rfl
theorem Rs.reverse {H : Hp} {F : AS} {xs : List PV} {vs : List V} (r : Rs c H F xs vs Emp) : Rs c H F xs.reverse vs.reverse Emp := Rs.rev r
/-- raise C(e, ..): C has fields -/
theorem e_raise {j kk : Nat} {x : Str} {e : Expr} {es : List Expr} {g : AF} {fI : Addr} {fd : FuncData} {ps fl : List Str} (D : Dk X c W k) (T : XT X.K X.mg c j x) (O : OexC X.K (c.cA j)) (hF : c.cF j = fl.reverse) (hne : fl ≠ [])
    (iC : PySem.W.findIn X.K (.ref (c.cA j)) "__init__" = some (some (.ref fI))) (tI : PySem.W.typeIn X.K (.ref fI) = some (.type "function")) (F1 : FnOk X.prog X.w X.K X.mg X.base (L2.CX X.prog X.w) kk fI fd ps (spI X.K (c.cA j) fl)) (hk : kk + 1 ≤ k) (hb : Binds X.K fd ps []) (hg : Gl X x)
    (ha : SA X c W (e :: es) g) (hn : ∀ ρ vs ρ', g ρ = .ok vs ρ' → vs.length = fl.length) (hl : fl.length ≤ 1000) (hdb : (x == ("__debug__" : Str)) = false := by decide) (he : starEach (e :: es) X.env = (false, eval e X.env) :: starEach es X.env := by rfl) (hpl : (backTo pos (starEach es X.env)).any (·.1) = false := by rfl) :
    SS c W fx X (.Raise (some (.Call (.Name x p) (e :: es) [] pos)) none pos') (sRaise j g) := by
  refine PS.weak (ps_raise D.calm D.tk (pmk_oex O iC tI F1 (D.hr.mono hk) hb .nil passL hg T.mg ha hdb he hpl)) fun En σ H q => ?_
  have hq : tS c W fx (fun ρ => sOf (g ρ) fun vs ρ1 => if vs.length = fl.length then .er ⟨j, (frzs vs).reverse⟩ ρ1 else .bad) En σ H := by
    obtain ⟨ρ, F, A, gd, re, pp⟩ := q
    refine ⟨ρ, F, A, gd, re, ?_⟩
    unfold sRaise at pp
    show PostS c W fx σ H F A (sOf (g ρ) fun vs ρ1 => if vs.length = fl.length then .er ⟨j, (frzs vs).reverse⟩ ρ1 else .bad) En
    cases r : g ρ with
    | ok vs ρ1 =>
      rw [r] at pp
      rw [sOf_ok] at pp ⊢
      rw [if_pos (hn _ _ _ r)]
      exact pp
    | er x ρ1 => rw [r] at pp; exact pp
    | bad => rw [r] at pp; exact pp
  refine tS.expr (rel := relL c) (f := g) hq fun vs xs ρ1 H1 F1 a b g1 d1 r e1 p1 => ?_
  have hlen : vs.length = fl.length := by
    by_cases z : vs.length = fl.length
    · exact z
    · rw [if_neg z] at p1; exact (show False from p1).elim
  rw [if_pos hlen] at p1
  have r' : Rs c H1 F1 vs xs a := r
  have lx : xs.length = fl.length := by rw [r'.len, hlen]
  refine ⟨by omega, fun a0 h0 => ?_⟩
  refine ⟨a0, xs ++ [], by simp, by simpa using lx, O, upd_same, fun dx H' h1 h2 e2 => ?_⟩
  subst e2
  have hd1 : H1 dx = none := by rw [upd_ne h2] at h1; exact h1
  have ef : (upd (del (upd (upd (upd H1 a0 (exo a0 (c.cA j) none)) dx (exd dx ((fl.zip (xs ++ [])).reverse))) a0 (exo a0 (c.cA j) (some dx))) a0) dx (.xd ((fl.zip (xs ++ [])).reverse))) = upd H1 dx (.xd ((fl.zip (xs ++ [])).reverse)) := by
    funext q
    by_cases z : q = dx
    · subst z; rw [upd_same, upd_same]
    · rw [upd_ne z, upd_ne z]
      by_cases z2 : q = a0
      · subst z2; rw [del_same, h0]
      · rw [del_ne z2, upd_ne z2, upd_ne z, upd_ne z2]
  refine ⟨rfl, dx, (fl.zip (xs ++ [])).reverse, upd_same, by rw [upd_ne h2, upd_same], hd1, ?_⟩
  rw [ef, List.append_nil]
  have st := Stp.raise (H := H1) (F := F1) (a := a) (b := b) (o := .xd ((fl.zip xs).reverse)) hd1
  have ga : Good H1 F1 a := g1.sub Sub.l
  have sa : Stp H1 F1 a (upd H1 dx (.xd ((fl.zip xs).reverse))) (Uni F1 a) Emp := (Stp.raise (b := Emp) hd1).more (Sub.uni (Sub.refl _) Sub.emp)
  have rf : Rs c (upd H1 dx (.xd ((fl.zip xs).reverse))) (Uni F1 a) (frzs vs) xs Emp := by
    have r1 : Rs c H1 (Uni F1 a) (frzs vs) xs Emp := Rs.frz (Rs.up Sub.l r') fun q z => .inr z
    have g2 : Good H1 (Uni F1 a) Emp := (Good.raise1 g1 d1).sub Sub.emp
    exact Rs.step g2 (Stp.newT hd1) r1 Dis.empl
  refine p1 _ (some dx) σ _ (Uni F1 a) b st (Good.raise g1 d1 hd1) ⟨rfl, ?_⟩ (RE.step ga sa e1 d1.sym) Keep.refl
  have nn : ¬ (frzs vs).reverse = [] := by
    intro z
    have := congrArg List.length z
    rw [frzs_eq, List.length_reverse, List.length_map, hlen] at this
    exact hne (List.length_eq_zero_iff.mp this)
  rw [if_neg nn]
  refine ⟨dx, xs.reverse, rfl, ?_, ?_, Rs.reverse rf⟩
  · rw [frzs_eq, List.length_reverse, List.length_map, hlen, hF, List.length_reverse]
    exact Nat.le_refl _
  · show upd H1 dx _ dx = _
    rw [upd_same, hF, rev_zip lx.symm]
end
end Tr
/-! Tr: a value frozen at once; an empty dict; a list repeated. -/
set_option autoImplicit false
namespace Tr
def eFrz (f : EF) : EF := fun ρ => (f ρ).bind fun v ρ1 => .ok (frz v) ρ1
def eDct0 : EF := fun ρ => .ok (.dct true [] []) ρ
def bRep : PV → PV → Option PV
  | .lst true xs, .int k => if decide (0 ≤ k) && decide (k ≤ 1000000) && fros xs && decide (xs.length * k.toNat ≤ big) then some (.lst true (List.replicate k.toNat xs).flatten) else none
  | _, _ => none
end Tr
set_option Elab.async false
set_option linter.all false
set_option maxRecDepth 100000
set_option maxHeartbeats 4000000
/-! Tr.U: more expressions. -/
namespace Tr
open PySem PySem.Spec PyProof.Rows L2
section
variable {X : Cx} {c : RC} {W : WX} {k n : Nat} {e a b : Expr} {f : EF} {oa ob : Opd} {pos p p2 : Pos}
theorem se_frz (h : SE X c W e f) : SE X c W e (eFrz f) := PE.weak h fun σ H Q q => by
  refine tG.bind (rel' := relE c) (g := fun v ρ1 => .ok (frz v) ρ1) q fun v x ρ1 H1 F1 a1 b1 g d r re pp => ?_
  have r2 : R c H1 (Uni F1 a1) (frz v) x Emp := R.frz (R.up Sub.l r) fun q z => .inr z
  have st : Stp H1 F1 (Uni a1 b1) H1 (Uni F1 a1) (Uni Emp b1) := Stp.raise1.drop (Sub.uni Sub.emp (Sub.refl _))
  exact pp x H1 _ Emp b1 st ((Good.raise1 g d).sub (Sub.uni Sub.emp (Sub.refl _))) Dis.empl r2 (RE.up Sub.l re)
theorem se_dct0 : SE X c W (.Dict [] [] pos) eDct0 := PE.weak pe_dnewK fun σ H Q ⟨ρ, F, A, g, re, pp⟩ q hq => by
  refine pp (.ref q) _ F (fun z => z = q) A ?_ ?_ ?_ ?_ ?_
  · exact (Stp.new hq).drop (Sub.uni Sub.r Sub.l)
  · exact (g.new (o := .dK []) hq (show Mu (.dK []) from trivial)).sub (Sub.uni Sub.r Sub.l)
  · intro z e1 e2
    obtain ⟨_, o, h1, _⟩ := g.own z e2
    rw [e1, hq] at h1; cases h1
  · exact ⟨q, [], Emp, rfl, ⟨rfl, by decide⟩, upd_same, rfl, id, Sub.emp, rfl⟩
  · exact RE.step (g.sub Sub.emp) (Stp.newT hq) re Dis.empr
theorem Rs.flat {H : Hp} {F : AS} {xs : List PV} {vs : List V} (r : Rs c H F xs vs Emp) : ∀ k : Nat, Rs c H F (List.replicate k xs).flatten (List.replicate k vs).flatten Emp
  | 0 => rfl
  | k + 1 => by
    rw [List.replicate_succ, List.replicate_succ, List.flatten_cons, List.flatten_cons]
    exact (Rs.append r (Rs.flat r k) Dis.empl).mono (Sub.uni (Sub.refl _) (Sub.refl _))
theorem k_rep : K2 c rRep bRep := by
  intro v w z x y H F Q A B g rv rw' kq q
  cases v with
  | lst fl xs =>
    cases fl with
    | true =>
      cases w with
      | int i =>
        simp only [bRep] at kq
        split at kq
        · rename_i hc
          cases kq
          simp only [Bool.and_eq_true, decide_eq_true_eq] at hc
          obtain ⟨⟨⟨h1, h2⟩, h3⟩, h4⟩ := hc
          obtain ⟨pa, vs, a', rfl, l, hp, _, _, _, rs⟩ := rv
          cases (show y = _ from rw')
          have lv : vs.length = xs.length := rs.len
          refine ⟨pa, i, vs, rfl, rfl, hp, by omega, by omega, by rw [lv]; exact h4, fun t ht => ?_⟩
          exact Fin.lst q g (Rs.flat (Rs.emp rs h3) _) (by rw [List.length_flatten, List.map_replicate, List.sum_replicate_nat, Nat.mul_comm]; exact h4) ht
        · cases kq
      | _ => cases kq
    | false => cases w <;> cases kq
  | _ => cases w <;> cases kq
theorem w_rep (D : Ds X c) (ha : SO X c W a oa) (hb : SO X c W b ob) : SE X c W (.BinOp a .Mult b pos) (eP2 bRep oa ob) := se_bin op_rep k_rep ha hb
theorem Ds.suite (h : Ds X c) (a : Addr) (pn : List (Addr × Obj)) : Ds (X.suite a pn) c := ⟨h.K, h.un, h.nd, h.gd⟩
end
end Tr
/-! Tr: instances of own classes, on trees. -/
set_option autoImplicit false
namespace Tr
open PySem (Str)
/-- a field: by the class's number, its place -/
abbrev Tb := List (Nat × Nat)
def fldv (tb : Tb) : PV → Option PV
  | .ins _ k vs => (tb.lookup k).bind fun j => vs[j]?
  | _ => none
def pj {β : Type} (tb : Tb) (k : PV → Option β) : PV → Option β := fun v => (fldv tb v).bind k
def pjl {β : Type} (tb : Tb) (k : PV → PV → Option β) : PV → PV → Option β := fun v w => (fldv tb v).bind fun u => k u w
def pjr {β : Type} (tb : Tb) (k : PV → PV → Option β) : PV → PV → Option β := fun v w => (fldv tb w).bind fun u => k v u
def pj2 {β : Type} (tb tc : Tb) (k : PV → PV → Option β) : PV → PV → Option β := fun v w => (fldv tb v).bind fun u => (fldv tc w).bind fun z => k u z
def putFld (j : Nat) (v : PV) (vs : List PV) : Option (List PV) := if j < vs.length then some (vs.set j v) else if j = vs.length then some (vs ++ [v]) else none
/-- x.f = e -/
def sPutF (i : Nat) (tb : Tb) (f : EF) : SF := fun ρ => sOf (f ρ) fun v ρ1 => match slot ρ1 i with
  | some (.ins true k vs) => match (tb.lookup k).bind fun j => putFld j v vs with
    | some ws => .nx (ρ1.set i (some (.ins true k ws)))
    | none => .bad
  | _ => .bad
/-- what a new instance's __init__ leaves -/
def made {α : Type} (r : FR) (k : PV → Env → Res α) (g : List PV → Env) : Res α := match r with
  | .ok .non (v :: ws) => k v (g ws)
  | .er e (_ :: ws) => .er e (g ws)
  | _ => .bad
/-- C(..) -/
def eMake (k : Nat) (sem : FF) (os : List Opd) (ds : List PV) : EF := fun ρ => (goAll os ρ).bind fun ts ρ1 => match takeAll os ts ρ1 with
  | none => .bad
  | some (vs, ρ2) => made (sem (.ins true k [] :: (vs ++ ds))) .ok fun ws => giveAll os vs ws ρ2
abbrev MT := List (Nat × FF)
def tagOf (v : Option PV) : Option Nat := match v with
  | some (.ins _ k _) => some k
  | _ => none
def recv (mt : MT) (v : Option PV) : Option FF := (tagOf v).bind fun k => mt.lookup k
/-- o.m(..): by the class of o -/
def eMeth (mt : MT) (o : Opd) (os : List Opd) (ds : List PV) : EF := fun ρ => (o.go ρ).bindB fun t ρ1 => match recv mt (o.get t ρ1) with
  | none => .bad
  | some sem => (goAll os ρ1).bind fun ts ρ2 => match takeAll (o :: os) (t :: ts) ρ2 with
    | none => .bad
    | some (vs, ρ3) => back (sem (vs ++ ds)) .ok fun ws => giveAll (o :: os) vs ws ρ3
/-- an own operator: by the class of the first operand; it raises nothing -/
def disp (mt : MT) : FF := fun as => match recv mt as.head? with
  | none => .bad
  | some sem => match sem as with
    | .er _ _ => .bad
    | r => r
/-- what a data value's type is -/
def tyS : PV → Option String
  | .non => some "NoneType" | .bl _ => some "bool" | .int _ => some "int" | .str _ => some "str"
  | .tup _ => some "tuple" | .lst _ _ => some "list" | .dct _ _ _ => some "dict"
  | _ => none
/-- what stands at the other side of an own ==: data, or an instance of a class in tg -/
def othOk (tg : List Nat) (v : PV) : Bool := match v with
  | .ins _ k _ => tg.contains k
  | v => (tyS v).isSome
/-- x == y, x an instance: a test -/
def tEqI (tg : List Nat) (mt : MT) (a b : Opd) : TF := fun ρ => (goAll [a, b] ρ).bind fun ts ρ1 => match takeAll [a, b] ts ρ1 with
  | some ([v, w], ρ2) => if othOk tg w = true then (match disp mt [v, w] with
    | .ok (.bl r) ws => .ok r (giveAll [a, b] [v, w] ws ρ2)
    | _ => .bad) else .bad
  | _ => .bad
/-- an own operator's def, by the class of the first operand -/
def dispX (mt : MT) : FF := fun as => match recv mt as.head? with
  | none => .bad
  | some sem => sem as
/-- zip of two tuples -/
def zipP : PV → PV → Option (List PV)
  | .tup xs, .tup ys => if fro (.tup xs) && fro (.tup ys) then some (List.zipWith (fun x y => .tup [x, y]) xs ys) else none
  | _, _ => none
def iZip (a b : Opd) : IF := op2 a b zipP
/-- isinstance(x, (T, U)) -/
def isA2 (T U : Ty) (v : PV) : Option Bool := (isA T v).bind fun a => (isA U v).bind fun b => some (a || b)
/-- how many distinct texts stand among the first i -/
def dcount (xs : List Str) : Nat → Nat
  | 0 => 0
  | i + 1 => if (xs.take i).any (· == xs.getD i Str.empty) then dcount xs i else dcount xs i + 1
theorem dcount_le (xs : List Str) : ∀ i, dcount xs i ≤ i
  | 0 => Nat.le_refl _
  | i + 1 => by
    have := dcount_le xs i
    rw [dcount]
    split <;> omega
/-- len(set(t)), t a tuple of texts -/
def fLenSetS : PV → Option PV
  | .tup xs => (allS xs).bind fun ss => if decide (ss.length ≤ 60) then some (.int (dcount ss ss.length : Nat)) else none
  | _ => none
/-- t.index(x), t a tuple of texts -/
def sIdx (x : Str) : List Str → Option Nat
  | [] => none
  | y :: ys => if y = x then some 0 else (sIdx x ys).map (· + 1)
def bIdx : PV → PV → Option PV
  | .tup xs, .str x => (allS xs).bind fun ss => (sIdx x ss).map fun j => .int (j : Nat)
  | _, _ => none
def isTup : PV → Bool
  | .tup _ => true
  | _ => false
/-- two operands, the first of a kind -/
def op2g {β : Type} (g : PV → Bool) (a b : Opd) (k : PV → PV → Option β) (ρ : Env) : Res β :=
  (a.go ρ).bind fun t ρ1 => if (a.get t ρ1).any g = true then (b.go ρ1).bind fun u ρ2 => .of ((a.get t ρ2).bind fun v => (b.get u ρ2).bind fun w => k v w) ρ2 else .bad
def eIdx (a b : Opd) : EF := op2g isTup a b bIdx
end Tr
set_option Elab.async false
set_option linter.all false
set_option maxRecDepth 100000
set_option maxHeartbeats 4000000
/-! Tr.I: instances: fields read and stored. -/
namespace Tr
open PySem PySem.Spec PyProof.Rows L2
/-- the field f of the classes in tb -/
structure FdOk (K : PySem.W.Frag) (c : RC) (tb : Tb) (f : Str) : Prop where
  ok : ∀ k j, tb.lookup k = some j → Cls K (c.cA k) ∧ NoAttr K (c.cA k) f ∧ (c.cF k)[j]? = some f ∧ (∀ i, i < j → (c.cF k)[i]? ≠ some f) ∧ (c.cF k).length < 1000
theorem fdok_nil {K : PySem.W.Frag} {c : RC} {f : Str} : FdOk K c [] f := ⟨fun k j h => by cases h⟩
theorem fdok_cons {K : PySem.W.Frag} {c : RC} {f : Str} {k j : Nat} {fs : List Str} {tb : Tb} (cl : Cls K (c.cA k)) (no : NoAttr K (c.cA k) f) (hF : c.cF k = fs) (hj : fs[j]? = some f) (hd : ∀ i, i < j → fs[i]? ≠ some f) (hl : fs.length < 1000) (r : FdOk K c tb f) : FdOk K c ((k, j) :: tb) f :=
  ⟨fun k' j' h => by
    rw [List.lookup_cons] at h
    by_cases e : k' = k
    · subst e
      simp at h
      subst h
      rw [hF]
      exact ⟨cl, no, hj, hd, hl⟩
    · rw [show (k' == k) = false by simpa using e] at h
      exact r.ok k' j' h⟩
section
variable {c : RC} {H : Hp} {F A : AS}
theorem R.insR {w : Bool} {k : Nat} {xs : List PV} {x : V} {a : AS} (r : R c H F (.ins w k xs) x a) : ∃ p dx vs b, x = .ref p ∧ xs.length ≤ (c.cF k).length ∧ H p = some (.ins (c.cA k) dx ((c.cF k).zip vs)) ∧ Sub b a ∧ Rs c H F xs vs b := by
  cases w with
  | true => obtain ⟨p, dx, vs, a', rfl, l, h, _, _, t, rs⟩ := r; exact ⟨p, dx, vs, a', rfl, l, h, t, rs⟩
  | false => obtain ⟨p, dx, vs, rfl, l, h, rs⟩ := r; exact ⟨p, dx, vs, Emp, rfl, l, h.1, Sub.emp, rs⟩
/-- the value of a field -/
theorem R.fld {tb : Tb} {f : Str} {K : PySem.W.Frag} (T : FdOk K c tb f) {v u : PV} {x : V} {a : AS} (r : R c H F v x a) (h : fldv tb v = some u) :
    ∃ p C dx fs y b, x = .ref p ∧ H p = some (.ins C dx fs) ∧ Cls K C ∧ NoAttr K C f ∧ fs.lookup f = some y ∧ Sub b a ∧ R c H F u y b := by
  cases v with
  | ins w k xs =>
    simp only [fldv] at h
    cases q : tb.lookup k with
    | none => rw [q] at h; cases h
    | some j =>
      rw [q, Option.bind_some] at h
      obtain ⟨cl, no, hj, hd, _⟩ := T.ok k j q
      obtain ⟨p, dx, vs, b, rfl, l, hp, sb, rs⟩ := r.insR
      obtain ⟨y, d, e1, s1, ry⟩ := rs.get h
      exact ⟨p, _, dx, _, y, d, rfl, hp, cl, no, by rw [lookup_zip hj hd]; exact e1, s1.trans sb, ry⟩
  | _ => cases h
end
section
variable {X : Cx} {c : RC} {W : WX} {fx : Nat → Bool} {tb tc : Tb} {f g : Str} {o a b : Expr} {i j : Nat} {pos p p2 apos : Pos} {x : Str}
/-- a field of any operand, then a one-place word -/
theorem fld_q {β μ : Type} {rel' : Hp → AS → β → μ → AS → Prop} {oo : Opd} {k : PV → Option β} {σ : L2.St} {H : Hp} {Q : μ → Hp → Prop} {r : V → Hp → Prop} (T : FdOk X.K c tb f) (q : tG c W rel' (op1 oo (pj tb k)) σ H Q)
    (fin : ∀ u y z ρ1 H1 F1 A1 bb, Good H1 F1 A1 → Sub bb A1 → RE c H1 F1 ρ1 σ bb → (∃ d, Sub d A1 ∧ R c H1 F1 u y d) → k u = some z → Post c W rel' σ H1 F1 A1 (.ok z ρ1) Q → r y H1) : tFld X.K (tO c W oo) f σ H r := by
  refine tO.one q fun v x y ρ1 H1 F1 A1 bb g sb e ⟨d, sd, rv⟩ kq pp => ?_
  unfold pj at kq
  cases h : fldv tb v with
  | none => rw [h] at kq; cases kq
  | some u =>
    rw [h, Option.bind_some] at kq
    obtain ⟨pa, C, dx, fs, w, b, rfl, hp, cl, no, hl, s1, ru⟩ := R.fld T rv h
    exact ⟨pa, C, dx, fs, w, rfl, hp, cl, no, hl, fin u w y ρ1 H1 F1 A1 bb g sb e ⟨b, s1.trans sd, ru⟩ kq pp⟩
/-- x.f, frozen -/
theorem e_fld {oo : Opd} (T : FdOk X.K c tb f) (ho : SO X c W o oo) (hb : attributeBase o f X.env (eval o X.env) = eval o X.env := by rfl) : SE X c W (.Attribute o f pos) (eP1 (pj tb onlyFro) oo) :=
  PE.weak (pe_fld ho hb) fun σ H Q q => fld_q T q fun u y z ρ1 H1 F1 A1 bb g sb e ⟨d, sd, ru⟩ kq pp => by
    unfold onlyFro at kq
    split at kq
    · rename_i hf
      cases kq
      exact Post.now pp g sb (ru.emp hf) e
    · cases kq
/-- two names, looked at -/
theorem nm2_q {β μ : Type} {rel' : Hp → AS → β → μ → AS → Prop} {k : PV → PV → Option β} {σ : L2.St} {H : Hp} {Q : μ → Hp → Prop} {r : V → V → Hp → Prop} (q : tG c W rel' (op2 (.nm i) (.nm j) k) σ H Q)
    (fin : ∀ v w x y z ρ1 F1 A1 bb, σ[i]? = some (some x) → σ[j]? = some (some y) → Good H F1 A1 → Sub bb A1 → RE c H F1 ρ1 σ bb → (∃ d, Sub d A1 ∧ R c H F1 v x d) → (∃ d, Sub d A1 ∧ R c H F1 w y d) → k v w = some z → Post c W rel' σ H F1 A1 (.ok z ρ1) Q → r x y H) : tVar i σ H fun x H1 => tVar j σ H1 fun y H2 => r x y H2 := by
  obtain ⟨ρ, F, A, g, e, p⟩ := q
  unfold op2 Opd.go Opd.get at p
  cases q1 : slot ρ i with
  | none => simp only [q1, Res.bind_bad] at p; exact p.elim
  | some v =>
    cases q2 : slot ρ j with
    | none => simp only [q1, q2, Res.bind_ok, Res.bind_bad] at p; exact p.elim
    | some w =>
      simp only [q1, q2, Res.bind_ok, Option.bind_some] at p
      cases q3 : k v w with
      | none => rw [q3] at p; exact p.elim
      | some z =>
        rw [q3] at p
        obtain ⟨x, b1, h1, s1, r1⟩ := e.look q1
        obtain ⟨y, b2, h2, s2, r2⟩ := e.look q2
        exact ⟨x, h1, y, h2, fin v w x y z ρ F A A h1 h2 g (Sub.refl _) e ⟨b1, s1, r1⟩ ⟨b2, s2, r2⟩ q3 p⟩
/-- x.f OP y -/
theorem fldL_q {β μ : Type} {rel' : Hp → AS → β → μ → AS → Prop} {k : PV → PV → Option β} {σ : L2.St} {H : Hp} {Q : μ → Hp → Prop} {r : V → V → Hp → Prop} (T : FdOk X.K c tb f) (q : tG c W rel' (op2 (.nm i) (.nm j) (pjl tb k)) σ H Q)
    (fin : ∀ v w x y z ρ1 F1 A1 bb, Good H F1 A1 → Sub bb A1 → RE c H F1 ρ1 σ bb → (∃ d, Sub d A1 ∧ R c H F1 v x d) → (∃ d, Sub d A1 ∧ R c H F1 w y d) → k v w = some z → Post c W rel' σ H F1 A1 (.ok z ρ1) Q → r x y H) : tFld X.K (tVar i) f σ H fun x H1 => tVar j σ H1 fun y H2 => r x y H2 := by
  obtain ⟨x, hx, y, hy, h⟩ := nm2_q (r := fun x y H => ∃ a C dx fs v, x = .ref a ∧ H a = some (.ins C dx fs) ∧ Cls X.K C ∧ NoAttr X.K C f ∧ fs.lookup f = some v ∧ r v y H) q fun v w x y z ρ1 F1 A1 bb h1 h2 g sb e ⟨d, sd, rv⟩ rw' kq pp => by
    unfold pjl at kq
    cases h : fldv tb v with
    | none => rw [h] at kq; cases kq
    | some u =>
      rw [h, Option.bind_some] at kq
      obtain ⟨pa, C, dx, fs, wv, b, rfl, hp, cl, no, hl, s1, ru⟩ := R.fld T rv h
      exact ⟨pa, C, dx, fs, wv, rfl, hp, cl, no, hl, fin u w wv y z ρ1 F1 A1 bb g sb e ⟨b, s1.trans sd, ru⟩ rw' kq pp⟩
  obtain ⟨a, C, dx, fs, v, e1, e2, e3, e4, e5, e6⟩ := h
  exact ⟨x, hx, a, C, dx, fs, v, e1, e2, e3, e4, e5, y, hy, e6⟩
/-- x.f OP y.g -/
theorem fld2_q {β μ : Type} {rel' : Hp → AS → β → μ → AS → Prop} {k : PV → PV → Option β} {σ : L2.St} {H : Hp} {Q : μ → Hp → Prop} {r : V → V → Hp → Prop} (T : FdOk X.K c tb f) (T2 : FdOk X.K c tc g) (q : tG c W rel' (op2 (.nm i) (.nm j) (pj2 tb tc k)) σ H Q)
    (fin : ∀ v w x y z ρ1 F1 A1 bb, Good H F1 A1 → Sub bb A1 → RE c H F1 ρ1 σ bb → (∃ d, Sub d A1 ∧ R c H F1 v x d) → (∃ d, Sub d A1 ∧ R c H F1 w y d) → k v w = some z → Post c W rel' σ H F1 A1 (.ok z ρ1) Q → r x y H) : tFld X.K (tVar i) f σ H fun x H1 => tFld X.K (tVar j) g σ H1 fun y H2 => r x y H2 := by
  have q' : tG c W rel' (op2 (.nm i) (.nm j) (pjl tb (pjr tc k))) σ H Q := q
  refine fldL_q (r := fun x y H => ∃ a C dx fs v, y = .ref a ∧ H a = some (.ins C dx fs) ∧ Cls X.K C ∧ NoAttr X.K C g ∧ fs.lookup g = some v ∧ r x v H) T q' fun v w x y z ρ1 F1 A1 bb gg sb e rv ⟨d, sd, rw'⟩ kq pp => ?_
  unfold pjr at kq
  cases h : fldv tc w with
  | none => rw [h] at kq; cases kq
  | some u =>
    rw [h, Option.bind_some] at kq
    obtain ⟨pa, C, dx, fs, wv, b, rfl, hp, cl, no, hl, s1, ru⟩ := R.fld T2 rw' h
    exact ⟨pa, C, dx, fs, wv, rfl, hp, cl, no, hl, fin v u x wv z ρ1 F1 A1 bb gg sb e rv ⟨b, s1.trans sd, ru⟩ kq pp⟩
/-- an instance in a slot is written anew -/
theorem write_ins {H : Hp} {F : AS} {σ : L2.St} {e : AS} {ρ : Env} {i : Nat} {p dx : Addr} {a : AS} {ys : List PV} {ws : List V} {k : Nat} (g : Good H F (Uni a e)) (d : Dis a e) (re : RE c H F (ρ.set i none) σ e) (hx : σ[i]? = some (some (.ref p))) (ap : a p) {b : AS} (sb : Sub b a) (nb : ¬ b p)
    (rs : Rs c H F ys ws b) (l : ys.length ≤ (c.cF k).length) : Stp H F (Uni a e) (upd H p (.ins (c.cA k) dx ((c.cF k).zip ws))) F (Uni a e) ∧ Good (upd H p (.ins (c.cA k) dx ((c.cF k).zip ws))) F (Uni a e) ∧ RE c (upd H p (.ins (c.cA k) dx ((c.cF k).zip ws))) F (ρ.set i (some (.ins true k ys))) σ (Uni a e) := by
  have gp : Good H F (fun q => q = p) := g.sub fun q z => by rw [z]; exact .inl ap
  have sp : Stp H F (fun q => q = p) (upd H p (.ins (c.cA k) dx ((c.cF k).zip ws))) F (fun q => q = p) := Stp.put rfl
  have nD : ∀ {t : AS}, ¬ t p → Dis t (fun q => q = p) := fun n q y z => n (by rw [← z]; exact y)
  have re2 := re.step gp sp (nD fun z => d p ap z)
  have rs2 := rs.step gp sp (nD nb)
  refine ⟨Stp.put (.inl ap), g.put (.inl ap) trivial, ?_⟩
  have := RE.put re2 hx (show R c (upd H p (.ins (c.cA k) dx ((c.cF k).zip ws))) F (.ins true k ys) (.ref p) a from ⟨p, dx, ws, b, rfl, l, upd_same, ap, nb, sb, rs2⟩) d
  rwa [List.set_set] at this
theorem putF_set : ∀ {fs : List Str} {vs : List V} {j : Nat} {f : Str} {y : V}, fs[j]? = some f → (∀ i, i < j → fs[i]? ≠ some f) → j < vs.length → vs.length ≤ fs.length → putF f y (fs.zip vs) = fs.zip (vs.set j y)
  | g :: fs, v :: vs, 0, f, y, h, _, _, _ => by
    simp at h; subst h
    show putF g y ((g, v) :: fs.zip vs) = _
    unfold putF
    rw [if_pos rfl]; rfl
  | g :: fs, v :: vs, j + 1, f, y, h, n, l, l2 => by
    have ne : ¬ g = f := by have := n 0 (by omega); simpa using this
    show putF f y ((g, v) :: fs.zip vs) = _
    unfold putF
    rw [if_neg ne, putF_set (j := j) (by simpa using h) (fun i hi => by simpa using n (i + 1) (by omega)) (by simpa using l) (by simpa using l2)]
    rfl
  | _, [], _, _, _, _, _, l, _ => by simp at l
  | [], _ :: _, _, _, _, h, _, _, _ => by simp at h
theorem putF_new : ∀ {fs : List Str} {vs : List V} {f : Str} {y : V}, fs[vs.length]? = some f → (∀ i, i < vs.length → fs[i]? ≠ some f) → putF f y (fs.zip vs) = fs.zip (vs ++ [y])
  | [], vs, f, y, h, _ => by simp at h
  | g :: fs, [], f, y, h, _ => by
    simp at h; subst h
    cases fs <;> rfl
  | g :: fs, v :: vs, f, y, h, n => by
    have ne : ¬ g = f := by have := n 0 (by simp); simpa using this
    show putF f y ((g, v) :: fs.zip vs) = _
    unfold putF
    rw [if_neg ne, putF_new (fs := fs) (vs := vs) (by simpa using h) (fun i hi => by simpa using n (i + 1) (by simpa using hi))]
    rfl
/-- x.f = e -/
theorem ss_fld {e : Expr} {fe : EF} {p1 p2 : Pos} (T : FdOk X.K c tb f) (hv : PE X (.Name x p1) (tVar i)) (h : SE X c W e fe) (hs : swapsWith e (some (.Attribute (.Name x p1) f p2)) pos.line X.env = pure false := by rfl) :
    SS c W fx X (.Assign [.Attribute (.Name x p1) f p2] e pos) (sPutF i tb fe) := by
  refine PS.weak (ps_fld hv h hs) fun D σ H q => ?_
  refine tS.expr (rel := relE c) q fun v y ρ1 H1 F1 a e1 g1 d r re1 p1 => ?_
  cases q0 : slot ρ1 i with
  | none => simp only [q0] at p1; exact p1.elim
  | some u0 =>
    simp only [q0] at p1
    split at p1
    · rename_i k vs eu
      cases eu
      split at p1
      · rename_i ws hw
        obtain ⟨x1, bb, dd, k1, k2, k3, k4, k5, k6⟩ := re1.take q0
        obtain ⟨pp, dx, us, a', rfl, l0, hp, m, n, t, rs⟩ := k5
        cases qj : tb.lookup k with
        | none => rw [qj] at hw; cases hw
        | some j =>
          rw [qj, Option.bind_some] at hw
          obtain ⟨cl, no, hj, hd, hl⟩ := T.ok k j qj
          have lu : us.length = vs.length := rs.len
          have hjl : j < (c.cF k).length := (List.getElem?_eq_some_iff.mp hj).1
          have dab : Dis a a' := fun q y z => d q y (k2 q (t q z))
          have dab' : Dis a' a := dab.sym
          have gg : Good H1 F1 (Uni (Uni bb a) dd) := g1.sub (Sub.uni (Sub.uni (k2.trans Sub.r) Sub.l) (k3.trans Sub.r))
          have hdd : Dis (Uni bb a) dd := Dis.uni k4 (fun q y z => d q y (k3 q z))
          have fin : ∀ zs : List V, putF f y ((c.cF k).zip us) = (c.cF k).zip zs → (∃ b, Sub b (Uni bb a) ∧ ¬ b pp ∧ Rs c H1 F1 ws zs b) → ws.length ≤ (c.cF k).length → D.nx σ (upd H1 pp (.ins (c.cA k) dx (putF f y ((c.cF k).zip us)))) := by
            intro zs ez ⟨b, sb, nb, rz⟩ lz
            rw [ez]
            obtain ⟨s2, g2, e2⟩ := write_ins (k := k) (dx := dx) gg hdd k6 k1 (.inl m) sb nb rz lz
            exact (PostS.sub p1 (Sub.uni (Sub.uni (k2.trans Sub.r) Sub.l) (k3.trans Sub.r))) σ _ F1 _ s2 g2 e2 Keep.refl
          refine ⟨_, k1, pp, _, dx, _, rfl, hp, cl, no, ?_, ?_⟩
          · rw [List.length_zip]; omega
          · unfold putFld at hw
            split at hw
            · rename_i hlt
              cases hw
              refine fin (us.set j y) (putF_set hj hd (by omega) (by omega)) ⟨Uni a a', Sub.uni Sub.r (t.trans Sub.l), fun z => z.elim (fun z => d pp z (k2 pp m)) n, rs.setAt r dab⟩ (by rw [List.length_set]; exact l0)
            · split at hw
              · rename_i _ he
                cases hw
                refine fin (us ++ [y]) (putF_new (by rw [lu, ← he]; exact hj) (fun i hi => hd i (by omega))) ⟨Uni a' a, Sub.uni (t.trans Sub.l) Sub.r, fun z => z.elim n fun z => d pp z (k2 pp m), rs.append (Rs.one r) dab'⟩ (by rw [List.length_append, List.length_singleton]; omega)
              · cases hw
      · exact p1.elim
    · exact p1.elim
end
end Tr
set_option Elab.async false
set_option linter.all false
set_option maxRecDepth 100000
set_option maxHeartbeats 4000000
/-! Tr.I2: instances made; methods; isinstance; an own ==. -/
namespace Tr
open PySem PySem.Spec PyProof.Rows L2
section
variable {c : RC} {W : WX} {σ : L2.St} {H : Hp} {F A : AS}
theorem Stp.newI {p dx : Addr} {C : Addr} (hp : H p = none) (hd : H dx = none) (ne : dx ≠ p) : Stp H F A (upd (upd H dx (.own p)) p (.ins C dx [])) F (Uni A (fun q => q = p)) := by
  have h2 : upd H dx (.own p) p = none := by rw [upd_ne (Ne.symm ne)]; exact hp
  exact (Stp.newT hd).trans (Stp.new h2)
theorem Good.newI {p dx : Addr} {C : Addr} (g : Good H F A) (hp : H p = none) (hd : H dx = none) (ne : dx ≠ p) : Good (upd (upd H dx (.own p)) p (.ins C dx [])) F (Uni A (fun q => q = p)) := by
  have h2 : upd H dx (.own p) p = none := by rw [upd_ne (Ne.symm ne)]; exact hp
  exact (g.newT hd).new (o := .ins C dx []) h2 (show Mu (.ins C dx []) from trivial)
/-- the callee's promise, met: __init__ of a new instance -/
theorem make_ok {k : Nat} {sem : FF} {os : List Opd} {ts : List (Option PV)} {xs : List V} {dps : List PV} {dvs : List V} {a b : AS} {ρ : Env} {Q : VK} {n : Nat} (g : Good H F A) (sa : Sub a A) (sb : Sub b A) (d : Dis a b) (tm : Tmps c σ H F os ts xs a) (e : RE c H F ρ σ b)
    (hd : ∀ H F, Rs c H F dps dvs Emp) (hn : os.length + dps.length + 1 = n)
    (p : Post c W (relE c) σ H F A (match takeAll os ts ρ with | none => .bad | some (vs, ρ2) => made (sem (.ins true k [] :: (vs ++ dps))) .ok fun ws => giveAll os vs ws ρ2) Q) {x dx : Addr} (hx : H x = none) (hdx : H dx = none) (ne : dx ≠ x) :
    spF c n sem (.ref x :: (xs ++ dvs)) (upd (upd H dx (.own x)) x (.ins (c.cA k) dx [])) (fun v H2 => v = .non ∧ Q (.ref x) H2) (fun cls d H' => W cls d σ H') := by
  cases q : takeAll os ts ρ with
  | none => simp only [q] at p; exact p.elim
  | some z =>
    obtain ⟨vs, ρ2⟩ := z
    simp only [q] at p
    obtain ⟨a2, b2, s1, s2, d2, r, e2⟩ := take_ok tm e d q
    have sa2 : Sub a2 A := fun q z => (s1 q z).elim (sa q) (sb q)
    have sb2 : Sub b2 A := s2.trans sb
    have lx : xs.length = os.length := by
      have go : ∀ {os : List Opd} {ts : List (Option PV)} {xs : List V} {a : AS}, Tmps c σ H F os ts xs a → xs.length = os.length := by
        intro os
        induction os with
        | nil => intro ts xs a h; rw [h.2]; rfl
        | cons o os ih => rintro ts xs a ⟨_, _, _, _, _, _, _, e, _, _, _, _, tl⟩; rw [e, List.length_cons, List.length_cons, ih tl]
      exact go tm
    have gE : Good H F Emp := g.sub Sub.emp
    have st0 : Stp H F Emp (upd (upd H dx (.own x)) x (.ins (c.cA k) dx [])) F (Uni Emp (fun q => q = x)) := Stp.newI hx hdx ne
    have gn : Good (upd (upd H dx (.own x)) x (.ins (c.cA k) dx [])) F (Uni A (fun q => q = x)) := g.newI hx hdx ne
    have nx : ∀ {t : AS}, Sub t A → ¬ t x := fun s z => by
      obtain ⟨_, o, h, _⟩ := g.own x (s x z)
      rw [hx] at h; cases h
    have r1 : Rs c (upd (upd H dx (.own x)) x (.ins (c.cA k) dx [])) F (vs ++ dps) (xs ++ dvs) a2 := by
      have r0 := r.step gE st0 Dis.empr
      exact (Rs.append r0 (hd _ _) Dis.empr).mono fun q z => z.elim id False.elim
    have ri : R c (upd (upd H dx (.own x)) x (.ins (c.cA k) dx [])) F (.ins true k []) (.ref x) (fun q => q = x) :=
      ⟨x, dx, [], Emp, rfl, Nat.zero_le _, by rw [List.zip_nil_right]; exact upd_same, rfl, id, Sub.emp, rfl⟩
    have dxa : Dis (fun q => q = x) a2 := fun q z y => nx sa2 (by rw [← z]; exact y)
    have r3 : Rs c (upd (upd H dx (.own x)) x (.ins (c.cA k) dx [])) F (.ins true k [] :: (vs ++ dps)) (.ref x :: (xs ++ dvs)) (Uni (fun q => q = x) a2) := ⟨_, _, _, _, rfl, Sub.l, Sub.r, dxa, ri, r1⟩
    refine ⟨by rw [List.length_cons, List.length_append, lx, (hd H F).len]; exact hn, _, F, _, gn.sub (Sub.uni Sub.r (sa2.trans Sub.l)), r3, ?_⟩
    have e3 : RE c (upd (upd H dx (.own x)) x (.ins (c.cA k) dx [])) F ρ2 σ b2 := e2.step gE st0 Dis.empr
    have gb : Good (upd (upd H dx (.own x)) x (.ins (c.cA k) dx [])) F b2 := gn.sub (sb2.trans Sub.l)
    have ga : Good (upd (upd H dx (.own x)) x (.ins (c.cA k) dx [])) F (Uni (fun q => q = x) a2) := gn.sub (Sub.uni Sub.r (sa2.trans Sub.l))
    have db : Dis b2 (Uni (fun q => q = x) a2) := fun q y z => z.elim (fun z => nx sb2 (by rw [← z]; exact y)) fun z => d2 q z y
    have stA : Stp H F A (upd (upd H dx (.own x)) x (.ins (c.cA k) dx [])) F (Uni b2 (Uni (fun q => q = x) a2)) := (Stp.newI hx hdx ne).drop (Sub.uni (sb2.trans Sub.l) (Sub.uni Sub.r (sa2.trans Sub.l)))
    have later : ∀ {H' : Hp} {F' A' : AS}, Stp (upd (upd H dx (.own x)) x (.ins (c.cA k) dx [])) F (Uni (fun q => q = x) a2) H' F' A' → Good H' F' A' → Dis A' b2 ∧ Good H' F' b2 ∧ RE c H' F' ρ2 σ b2 ∧ Stp H F A H' F' (Uni b2 A') := fun s g' =>
      ⟨(s.apart gb db).sym, gb.kept s g' db, e3.step ga s db, stA.trans (s.frame (B := b2))⟩
    cases q2 : sem (.ins true k [] :: (vs ++ dps)) with
    | bad => simp only [q2, made] at p; exact p.elim
    | ok v ws =>
      simp only [q2, made] at p
      cases v with
      | non =>
        cases ws with
        | nil => exact (show False from p).elim
        | cons w0 ws =>
          intro x' H' F' a3 b3 s g3 d3 rv rw'
          obtain ⟨y, ys, b31, b32, e1, t1, t2, t3, r31, r32⟩ := rw'
          cases e1
          obtain ⟨l1, l2, l3, l4⟩ := later (s.drop (B := b3) Sub.r) (g3.sub Sub.r)
          refine ⟨rv, ?_⟩
          have e4 := give_ok (vs := vs) tm.nms r32 l3 (fun q y z => l1 q (t2 q y) z)
          refine p (.ref x) H' F' b31 (Uni b32 b2) (l4.drop ?_) ((g3.sub Sub.r).uni l2 |>.sub ?_) ?_ r31 e4
          · exact fun q y => y.elim (fun z => .inr (t1 q z)) fun z => z.elim (fun z => .inr (t2 q z)) .inl
          · exact fun q y => y.elim (fun z => .inl (t1 q z)) fun z => z.elim (fun z => .inl (t2 q z)) .inr
          · exact fun q y z => z.elim (t3 q y) (l1 q (t1 q y))
      | _ => exact (show False from p).elim
    | er z ws =>
      simp only [q2, made] at p
      cases ws with
      | nil => exact (show False from p).elim
      | cons w0 ws =>
        intro cls dd H' F' b3 s g3 rx rw'
        obtain ⟨y, ys, b31, b32, e1, t1, t2, t3, r31, r32⟩ := rw'
        cases e1
        obtain ⟨l1, l2, l3, l4⟩ := later s g3
        have e4 := give_ok (vs := vs) tm.nms r32 l3 (fun q y z => l1 q (t2 q y) z)
        exact p cls dd H' F' (Uni b32 b2) (l4.drop (Sub.uni (t2.trans Sub.r) Sub.l)) ((g3.uni l2).sub (Sub.uni (t2.trans Sub.l) Sub.r)) rx e4
end
section
variable {X : Cx} {c : RC} {W : WX} {fx : Nat → Bool} {kk j n : Nat} {f fI C : Addr} {fd : FuncData} {ps ks : List Str} {sem : FF} {dvs : List V} {dps : List PV} {ds : List Value} {x m : Str} {p pos apos : Pos} {e o : Expr} {es : List Expr} {os : List Opd} {oo : Opd} {ta : TE} {t : TA} {sp : Sp}
/-! ### C(..) -/
def tMakeS (C : Addr) (sp : Sp) (dvs : List V) (E : L2.St → XK) (t : TA) : TE := fun σ H Q => t σ H fun vs H1 => ∀ x dx, H1 x = none → H1 dx = none → dx ≠ x →
  sp (.ref x :: (vs ++ dvs)) (upd (upd H1 dx (.own x)) x (.ins C dx [])) (fun v H2 => v = .non ∧ Q (.ref x) H2) (E σ)
theorem make_guards {A : Around} {C : Addr} {us : List Value} {kw : List (Str × Value)} (h : A.guards = some []) : (A.under (.builtin "type.__call__" ⟨.ref C :: us, kw⟩)).guards = some [] := by
  first
    | exact h
    | (simp [Around.under, Code.weight, Code.isCreation, Code.isGuard, Code.isCaller, Code.frames, Code.isFrame, guardIds, h]; done)
theorem make_q {k : Nat} (hd : ∀ H F, Rs c H F dps dvs Emp) (hn : os.length + dps.length + 1 = n) {σ : L2.St} {H : Hp} {Q : VK} (q : tEx c W (eMake k sem os dps) σ H Q) : tMakeS (c.cA k) (spF c n sem) dvs (fun σ cls d H' => W cls d σ H') (tOs c W os) σ H Q := by
  obtain ⟨ρ, F, A, gd, e, p⟩ := q
  refine tOs.next (t := Emp) gd Sub.emp (Sub.refl _) Dis.empl e p fun us xs ρ1 H1 F1 a1 b1 g1 _ d tm e1 s p1 => ?_
  intro x dx hx hdx ne
  exact make_ok g1 (Sub.l.trans Sub.r) (Sub.r.trans Sub.r) d tm e1 hd hn p1 hx hdx ne
/-! ### o.m(..) -/
def tMethS (C : Addr) (m : Str) (sp : Sp) (dvs : List V) (E : L2.St → XK) (ta : TE) (t : TA) : TE := fun σ H Q => ta σ H fun x H1 => ∃ a dx fs, x = .ref a ∧ H1 a = some (.ins C dx fs) ∧ fs.lookup m = none ∧ t σ H1 fun vs H2 => sp (x :: (vs ++ dvs)) H2 Q (E σ)
/-- how a method's call is told by the text -/
def MethTx (X : Cx) (o : Expr) (m : Str) (apos pos : Pos) (es : List Expr) (pl : Sem Bool) : Prop := eval (.Call (.Attribute o m apos) es [] pos) X.env = (do
  let ov ← eval o X.env
  standAt apos.atName
  let (f, first) ← holding [ov] (getMethod ov m pl)
  callWith pos f first (backTo pos (starEach es X.env)) (backToKw pos (keywordEach [] X.env)))
theorem pe_methG0 {E : L2.St → XK} {pl : Sem Bool} (he : PE X o ta) (cl : Cls X.K C) (hm : Meth X.K C m f) (F : FnG X.prog X.w X.K X.mg X.base (L2.CX X.prog X.w) kk f fd ps sp) (gA : X.A.guards = some []) (hr : Room kk X.A) (hb : Binds X.K fd ps ds) (hd : Vals dvs ds) (hx : ∀ σ, PassesAt (L2.CX X.prog X.w) X σ (E σ)) (ht : MethTx X o m apos pos [] pl) :
    PE X (.Call (.Attribute o m apos) [] [] pos) (tMethS C m sp dvs E ta tNil) := by
  refine ⟨fun pins s σ H Q I h => ?_⟩
  refine PySem.W.methodCall_KW (pl := pl) (thn (he.run pins s σ H _ I h) fun u s1 hh => ?_) ht
  obtain ⟨x, H1, I1, rx, a, dx, fs, rfl, ea, l, q⟩ := hh
  obtain rfl : u = Value.ref a := rx
  refine getmeth_ok I1 ea cl hm l ?_
  have r2 : Vals [V.ref a] [Value.ref a] := .cons rfl .nil
  exact PySem.W.callWith_K0 (first := [.ref a]) I1.kIn hm.kp (run_G (args := ⟨[.ref a], []⟩) (us := [.ref a] ++ ds) F gA hr (fun hl => hb s1 [.ref a] I1.kIn hl) (hx σ) I1 (r2.append hd) q)
theorem lookup_no : ∀ {fs : List Str} {vs : List V} {m : Str}, m ∉ fs → (fs.zip vs).lookup m = none
  | [], _, _, _ => rfl
  | _ :: _, [], _, _ => rfl
  | g :: fs, v :: vs, m, h => by
    have h1 : (m == g) = false := by simpa using fun e : m = g => h (by rw [e]; exact List.mem_cons_self)
    rw [List.zip_cons_cons, List.lookup_cons, h1]
    exact lookup_no fun z => h (List.mem_cons_of_mem _ z)
/-- one class's method m: dps the defaults that are left -/
structure MOk (X : Cx) (c : RC) (j : Nat) (m : Str) (n : Nat) (dps : List PV) (k : Nat) (sem : FF) : Prop where
  ok : ∃ (kk : Nat) (f : Addr) (fd : FuncData) (ps : List Str) (ds : List Value) (dvs : List V), Cls X.K (c.cA k) ∧ Meth X.K (c.cA k) m f ∧ FnG X.prog X.w X.K X.mg X.base (L2.CX X.prog X.w) kk f fd ps (spF c n sem) ∧ kk ≤ j ∧ Binds X.K fd ps ds ∧ Vals dvs ds ∧ (∀ H F, Rs c H F dps dvs Emp) ∧ m ∉ c.cF k
def MsOk (X : Cx) (c : RC) (j : Nat) (m : Str) (n : Nat) (dps : List PV) (mt : MT) : Prop := ∀ k sem, mt.lookup k = some sem → MOk X c j m n dps k sem
theorem ms_nil {dps : List PV} : MsOk X c j m n dps [] := fun k sem h => by cases h
theorem ms_cons {dps : List PV} {k : Nat} {mt : MT} (h : MOk X c j m n dps k sem) (r : MsOk X c j m n dps mt) : MsOk X c j m n dps ((k, sem) :: mt) := fun k' s' e => by
  rw [List.lookup_cons] at e
  by_cases z : k' = k
  · subst z; simp at e; subst e; exact h
  · rw [show (k' == k) = false by simpa using z] at e
    exact r k' s' e
/-- behind the receiver, its class known -/
theorem recv_q {mt : MT} {σ : L2.St} {H : Hp} {Q : VK} (q : tEx c W (eMeth mt oo os dps) σ H Q) :
    ∃ k sem, mt.lookup k = some sem ∧ tO c W oo σ H fun x H1 => ∃ a dx vs, x = .ref a ∧ H1 a = some (.ins (c.cA k) dx ((c.cF k).zip vs)) ∧ ∀ (n : Nat) (dvs : List V), (∀ H F, Rs c H F dps dvs Emp) → os.length + 1 + dps.length = n → tOs c W os σ H1 fun ys H2 => spF c n sem (.ref a :: (ys ++ dvs)) H2 Q (fun cls d H' => W cls d σ H') := by
  obtain ⟨ρ, F, A, gd, e, p⟩ := q
  unfold eMeth at p
  cases q0 : oo.go ρ with
  | bad => rw [q0] at p; exact p.elim
  | er z ρ1 => rw [q0] at p; exact p.elim
  | ok t ρ1 =>
    rw [q0, Res.bindB_ok] at p
    cases q1 : tagOf (oo.get t ρ1) with
    | none => simp only [recv, q1, Option.bind_none] at p; exact p.elim
    | some k =>
      cases q2 : mt.lookup k with
      | none => simp only [recv, q1, Option.bind_some, q2] at p; exact p.elim
      | some sem =>
        simp only [recv, q1, Option.bind_some, q2] at p
        refine ⟨k, sem, q2, ?_⟩
        have p' : Post c W (relE c) σ H F A ((oo.go ρ).bind fun u ρ2 => if tagOf (oo.get u ρ2) = some k then (goAll os ρ2).bind (fun ts ρ3 => match takeAll (oo :: os) (u :: ts) ρ3 with
            | none => .bad
            | some (vs, ρ4) => back (sem (vs ++ dps)) .ok fun ws => giveAll (oo :: os) vs ws ρ4) else .bad) Q := by
          rw [q0, Res.bind_ok, if_pos q1]
          exact p
        refine tO.next (t := Emp) gd Sub.emp (Sub.refl _) Dis.empl e p' fun u x ρ2 H1 F1 a1 b1 g1 _ d tm e1 s1 p1 => ?_
        by_cases q3 : tagOf (oo.get u ρ2) = some k
        · rw [if_pos q3] at p1
          cases q4 : oo.get u ρ2 with
          | none => rw [q4] at q3; cases q3
          | some v =>
            obtain ⟨dd, sd, rv⟩ := tm.get e1 q4
            cases v with
            | ins w k' xs =>
              rw [q4] at q3
              cases q3
              obtain ⟨a, dx, vs, b, rfl, _, hp, _, _⟩ := rv.insR
              refine ⟨a, dx, vs, rfl, hp, fun n dvs hd hn => ?_⟩
              refine tOs.next (os := os) (t := a1) (b := b1) (g1.sub Sub.r) Sub.l Sub.r d e1 (Post.sub p1 Sub.r) fun us ys ρ3 H2 F2 a2 b2 g2 d1 d2 tms e2 s2 p2 => ?_
              have tm2 := tm.step (g1.sub (Sub.r.trans Sub.r)) s2 d
              have d12 : Dis a1 a2 := fun q y z => d1 q y (.inl z)
              have tmA : Tmps c σ H2 F2 (oo :: os) (u :: us) (.ref a :: ys) (Uni a1 a2) := ⟨u, us, .ref a, ys, a1, a2, rfl, rfl, Sub.l, Sub.r, d12, tm2, tms⟩
              have dd2 : Dis (Uni a1 a2) b2 := Dis.uni (fun q y z => d1 q y (.inr z)) d2
              exact call_ok (os := oo :: os) (ts := u :: us) (xs := .ref a :: ys) g2 (Sub.uni Sub.l (Sub.l.trans Sub.r)) (Sub.r.trans Sub.r) dd2 tmA e2 (hd H2 F2) (by simpa using hn) p2
            | _ => rw [q4] at q3; cases q3
        · rw [if_neg q3] at p1
          exact p1.elim
/-- o.m() -/
theorem e_meth0 {mt : MT} {pl : Sem Bool} (D : Dk X c W j) (ho : SO X c W o oo) (hM : MsOk X c j m n dps mt) (hn : 1 + dps.length = n) (ht : MethTx X o m apos pos [] pl) :
    SE X c W (.Call (.Attribute o m apos) [] [] pos) (eMeth mt oo [] dps) := by
  refine ⟨fun pins s σ H Q I q => ?_⟩
  obtain ⟨k, sem, hk, h⟩ := recv_q q
  obtain ⟨kk, f, fd, ps, ds, dvs, cl, hm, G, hr, hb, hd, hp, hno⟩ := (hM k sem hk).ok
  refine (pe_methG0 (E := fun σ cls d H' => W cls d σ H') ho cl hm G D.gd (D.hr.mono hr) hb hd (fun σ => passAt D.tk σ) ht).run pins s σ H Q I (tO.imp h fun x H1 z => ?_)
  obtain ⟨a, dx, vs, rfl, ea, z⟩ := z
  exact ⟨a, dx, _, rfl, ea, lookup_no hno, z n dvs hp (by simpa using hn)⟩
end
end Tr
set_option Elab.async false
set_option linter.all false
set_option maxRecDepth 100000
set_option maxHeartbeats 4000000
/-! Tr.I3: isinstance of own classes; an own ==. -/
namespace Tr
open PySem PySem.Spec PyProof.Rows L2
/-- the own class k, called x -/
structure CT (K : PySem.W.Frag) (mg : Str → Option Value) (c : RC) (k : Nat) (x : Str) : Prop where
  mg : mg x = some (.ref (c.cA k))
  cl : Cls K (c.cA k)
  ca : PySem.W.findIn K (.ref (c.cA k)) "__class__" = some (some (.builtin "object.__class__"))
  mo : PySem.W.mroIn K (c.cA k) (.type "object") = some true
  ty : PySem.W.typeIn K (.ref (c.cA k)) = some (.type "type")
  is : PySem.W.isClsIn K (c.cA k) = true
theorem sub_ty (K : PySem.W.Frag) (C : Addr) {T : String} (h : (PySem.fastBuiltinMro T).isSome = true) (hn : ∀ l, PySem.fastBuiltinMro T = some l → l.all (fun v => match v with | .ref _ => false | _ => true) = true) : PySem.W.subIn K (.type T) (.ref C) = some false := by
  show (PySem.fastBuiltinMro T).map (fun l => l.contains (Value.ref C)) = some false
  cases q : PySem.fastBuiltinMro T with
  | none => rw [q] at h; cases h
  | some l =>
    have hl := hn l q
    rw [Option.map_some]
    congr 1
    rw [List.contains_eq_any_beq, List.any_eq_false]
    intro v hv e
    have := List.all_eq_true.mp hl v hv
    have e' : Value.ref C = v := beq_iff_eq.mp e
    rw [← e'] at this
    cases this
theorem tyS_ok {T : String} {v : PV} (h : tyS v = some T) (K : PySem.W.Frag) (C : Addr) : PySem.W.subIn K (.type T) (.ref C) = some false := by
  have go : ∀ T : String, T ∈ ["NoneType", "bool", "int", "str", "tuple", "list", "dict"] → PySem.W.subIn K (.type T) (.ref C) = some false := by
    intro T hT
    simp only [List.mem_cons, List.not_mem_nil, or_false] at hT
    rcases hT with rfl | rfl | rfl | rfl | rfl | rfl | rfl <;> exact sub_ty K C (by decide +kernel) (fun l hl => by
      have : PySem.fastBuiltinMro _ = some _ := hl
      revert hl
      first
        | (intro hl; have e := Option.some.inj (hl.symm.trans (by kernel_rfl : PySem.fastBuiltinMro "NoneType" = some [.type "NoneType", .type "object"])); subst e; rfl)
        | (intro hl; have e := Option.some.inj (hl.symm.trans (by kernel_rfl : PySem.fastBuiltinMro "bool" = some [.type "bool", .type "int", .type "object"])); subst e; rfl)
        | (intro hl; have e := Option.some.inj (hl.symm.trans (by kernel_rfl : PySem.fastBuiltinMro "int" = some [.type "int", .type "object"])); subst e; rfl)
        | (intro hl; have e := Option.some.inj (hl.symm.trans (by kernel_rfl : PySem.fastBuiltinMro "str" = some [.type "str", .type "object"])); subst e; rfl)
        | (intro hl; have e := Option.some.inj (hl.symm.trans (by kernel_rfl : PySem.fastBuiltinMro "tuple" = some [.type "tuple", .type "object"])); subst e; rfl)
        | (intro hl; have e := Option.some.inj (hl.symm.trans (by kernel_rfl : PySem.fastBuiltinMro "list" = some [.type "list", .type "object"])); subst e; rfl)
        | (intro hl; have e := Option.some.inj (hl.symm.trans (by kernel_rfl : PySem.fastBuiltinMro "dict" = some [.type "dict", .type "object"])); subst e; rfl))
  cases v <;> first | (cases h; done) | (cases h; exact go _ (by simp))
section
variable {c : RC} {H : Hp} {F A : AS}
theorem tyx_S {v : PV} {x : V} {T : String} (r : R c H F v x A) (h : tyS v = some T) : TyX c.K H x (.type T) := by
  refine tyx_of r ?_
  cases v <;> first | (cases h; done) | (cases h; rfl)
end
/-- own classes with their tags: x an instance of one of tg -/
def CTs (K : PySem.W.Frag) (mg : Str → Option Value) (c : RC) (tg : List Nat) : Prop := ∀ k, tg.contains k = true → ∃ x, CT K mg c k x
section
variable {X : Cx} {c : RC} {W : WX} {k : Nat} {o : Expr} {oo : Opd} {pos p p2 : Pos} {x : Str} {tg ks : List Nat}
/-- isinstance(x, C), C own; tg: the classes that instances here may have -/
def isaK (tg ks : List Nat) : PV → Option Bool
  | .ins _ k _ => if tg.contains k then some (ks.contains k) else none
  | v => if (tyS v).isSome then some false else none
theorem e_isaI (D : Ds X c) (A : CTs X.K X.mg c tg) (G : XG X.K) (T : CT X.K X.mg c k x) (hk : ∀ k', tg.contains k' = true → PySem.W.kitOne X.K (.ref (c.cA k')) (.ref (c.cA k)) = some (ks.contains k')) (hm : X.mg "isinstance" = none) (hg : Gl X "isinstance") (hgx : Gl X x) (ho : SO X c W o oo)
    (st : starEach [o, .Name x p2] X.env = (false, eval o X.env) :: starEach [.Name x p2] X.env := by rfl) (st2 : starEach [.Name x p2] X.env = (false, eval (.Name x p2) X.env) :: starEach [] X.env := by rfl) (he : (backTo pos (starEach [.Name x p2] X.env)).any (·.1) = false := by rfl) (hd : (x == ("__debug__" : Str)) = false := by decide) :
    SE X c W (.Call (.Name "isinstance" p) [o, .Name x p2] [] pos) (eT (tPV (isaK tg ks) oo)) := by
  have ce : PE X (.Name x p2) (tCls (.ref (c.cA k))) := PE.weak (pe_glob hgx T.mg (v := .ref (c.cA k)) rfl hd) fun _ _ _ q => q
  refine PE.weak (pe_callB call_isi hg hm (by decide +kernel) (pa_cons ho (pa_cons ce pa_nil st2) st) (by decide) (by decide) st he) fun σ H Q q => ?_
  refine tO.one (eT_bl q) fun v y z ρ1 H1 F1 A1 b g sb e ⟨a, sa, r⟩ kq pp => ?_
  have data : ∀ T', tyS v = some T' → isaK tg ks v = some z → (∀ w k' xs, v ≠ .ins w k' xs) → rIsi X.K [y, .ref (c.cA k)] H1 Q := fun T' ht hz hv => by
    have e0 : z = false := by
      cases v with
      | ins w k' xs => exact absurd rfl (hv w k' xs)
      | _ => first | (cases ht; done) | (simp [isaK, tyS] at hz; exact hz)
    subst e0
    refine ⟨y, .ref (c.cA k), .type T', .ref (c.cA k), false, rfl, .own _, by rw [D.K]; exact tyx_S r ht, ?_, pp.now g sb rfl e⟩
    unfold PySem.W.kitOne PySem.W.kitCls
    rw [if_neg (by simp)]
    dsimp only
    rw [if_pos (by rw [show (PySem.W.clsIn X.K (c.cA k)).isSome = true from T.is, T.ty] <;> rfl)]
    exact tyS_ok ht _ _
  cases v with
  | ins w k' xs =>
    simp only [isaK] at kq
    split at kq
    · rename_i ht
      cases kq
      obtain ⟨x', T'⟩ := A k' ht
      obtain ⟨pa, dx, vs, b', rfl, _, hp, _, _⟩ := r.insR
      exact ⟨_, .ref (c.cA k), .ref (c.cA k'), .ref (c.cA k), _, rfl, .own _, .base (.ins hp T'.cl T'.ca G.sp G.tk T'.mo), hk k' ht, pp.now g sb rfl e⟩
    · cases kq
  | non => exact data _ rfl kq fun _ _ _ z => by cases z
  | bl _ => exact data _ rfl kq fun _ _ _ z => by cases z
  | int _ => exact data _ rfl kq fun _ _ _ z => by cases z
  | str _ => exact data _ rfl kq fun _ _ _ z => by cases z
  | tup _ => exact data _ rfl kq fun _ _ _ z => by cases z
  | lst _ _ => exact data _ rfl kq fun _ _ _ z => by cases z
  | dct _ _ _ => exact data _ rfl kq fun _ _ _ z => by cases z
  | con _ => simp [isaK, tyS] at kq
  | exc _ _ => simp [isaK, tyS] at kq
  | st _ _ => simp [isaK, tyS] at kq
end
end Tr
set_option Elab.async false
set_option linter.all false
set_option maxRecDepth 100000
set_option maxHeartbeats 4000000
/-! Tr.I4: an own ==. -/
namespace Tr
open PySem PySem.Spec PyProof.Rows L2
/-- the classes' own == -/
structure EqOk (X : Cx) (c : RC) (j : Nat) (tg : List Nat) (k : Nat) (sem : FF) : Prop where
  ok : ∃ (kk : Nat) (f : Addr) (fd : FuncData) (ps : List Str), PySem.W.findIn X.K (.ref (c.cA k)) "__eq__" = some (some (.ref f)) ∧ PySem.W.isFn X.K (.ref f) = true ∧ FnG X.prog X.w X.K X.mg X.base (L2.CX X.prog X.w) kk f fd ps (spF c 2 sem) ∧ kk ≤ j ∧ Binds X.K fd ps [] ∧
    ∀ k', tg.contains k' = true → PySem.W.notFirst X.K (c.cA k) (.ref (c.cA k')) = true
def EqsOk (X : Cx) (c : RC) (j : Nat) (tg : List Nat) (mt : MT) : Prop := ∀ k sem, mt.lookup k = some sem → EqOk X c j tg k sem
theorem eqs_nil {X : Cx} {c : RC} {j : Nat} {tg : List Nat} : EqsOk X c j tg [] := fun k sem h => by cases h
theorem eqs_cons {X : Cx} {c : RC} {j : Nat} {tg : List Nat} {k : Nat} {sem : FF} {mt : MT} (h : EqOk X c j tg k sem) (r : EqsOk X c j tg mt) : EqsOk X c j tg ((k, sem) :: mt) := fun k' s' e => by
  rw [List.lookup_cons] at e
  by_cases z : k' = k
  · subst z; simp at e; subst e; exact h
  · rw [show (k' == k) = false by simpa using z] at e
    exact r k' s' e
/-- the reading by values -/
def rEqI (X : Cx) (c : RC) (j : Nat) (tg : List Nat) : R2 := fun x y H Q => ∃ a k dx fs sem t, x = .ref a ∧ H a = some (.ins (c.cA k) dx fs) ∧ EqOk X c j tg k sem ∧ TyX X.K H y t ∧ PySem.W.notFirst X.K (c.cA k) t = true ∧
  spF c 2 sem [x, y] H (fun v H' => ∃ b, v = .bl b ∧ Q v H') (fun _ _ _ => False)
section
variable {X : Cx} {c : RC} {W : WX} {j : Nat} {tg : List Nat} {a b : Expr} {oa ob : Opd} {pos : Pos} {mt : MT}
theorem op_eqI {W' : WX} (D : Dk X c W' j) : OpR X (compareOp .Eq) (rEqI X c j tg) := by
  intro pins s σ H x y v u Q I rx ry h
  obtain ⟨pa, k, dx, fs, sem, t, rfl, ha, E, ty, hn, sp⟩ := h
  obtain ⟨kk, f, fd, ps, hs, hf, F, hr, hb, _⟩ := E.ok
  obtain rfl : v = Value.ref pa := rx
  obtain ⟨mA, J, _⟩ := ins_get I.hok ha
  obtain ⟨od, J, _⟩ := J.look
  obtain ⟨m, hF⟩ := I.fr
  obtain ⟨P, Z, pz, hne⟩ := kit_of I ry ty
  have room := D.hr.mono hr
  show wpAny (model X.prog X.w) X.A (richCompare .Eq (.ref pa) u) (EP X pins σ Q) X.xe s
  refine PySem.W.cmp_K (op := .Eq) (tb := t) D.hr.units0 hF I.ok.mod.kin J (Z.ty _ _ I.kIn pz) hn hs hf ?_
  have rr : Vals [V.ref pa, y] [Value.ref pa, u] := .cons rfl (.cons ry .nil)
  refine wpAny_mono (run_G (E := fun _ _ _ => False) (args := ⟨[.ref pa, u], []⟩) (us := [.ref pa, u]) (vs := [V.ref pa, y]) (Q := fun v H' => ∃ b, v = .bl b ∧ Q v H') F D.gd room (fun hl => by
    have := hb s [.ref pa, u] I.kIn (by simpa using hl)
    simpa using this) (fun pins' H' s' e s'' _ z => by
      obtain ⟨_, _, _, _, _, _, _, _, _, _, _, _, z⟩ := z
      exact z.elim) I rr sp) (fun r s' z => ?_) fun _ _ z => z
  obtain ⟨v', H', I', rv, ⟨b, rfl, q⟩⟩ := z
  cases (show r = Value.bool b from rv)
  exact ⟨.bl b, H', I', rfl, q⟩
theorem eq_q {σ : L2.St} {H : Hp} {Q : VK} (D : Ds X c) (A : CTs X.K X.mg c tg) (G : XG X.K) (hE : EqsOk X c j tg mt)
    (q : tTs c W (tEqI tg mt oa ob) σ H fun d H1 => Q (.bl d) H1) : tO c W oa σ H fun x H1 => tO c W ob σ H1 fun y H2 => rEqI X c j tg x y H2 Q := by
  obtain ⟨ρ, F, A0, gd, e, p⟩ := q
  unfold tEqI at p
  have := tOs.next (os := [oa, ob]) (t := Emp) gd Sub.emp (Sub.refl _) Dis.empl e p (K := fun xs H2 => ∃ x y, xs = [x, y] ∧ rEqI X c j tg x y H2 Q) fun us xs ρ1 H1 F1 a1 b1 g1 _ d tm e1 s p1 => ?_
  · refine tO.imp this fun x H1 z => tO.imp z fun y H2 z => ?_
    obtain ⟨x', y', e1, z⟩ := z
    cases e1
    exact z
  · cases q1 : takeAll [oa, ob] us ρ1 with
    | none => rw [q1] at p1; exact p1.elim
    | some z =>
      obtain ⟨vs, ρ2⟩ := z
      rw [q1] at p1
      match vs with
      | [v, w] =>
        simp only at p1
        by_cases oth : othOk tg w = true
        · rw [if_pos oth] at p1
          obtain ⟨a2, b2, s1, s2, d2, r, e2⟩ := take_ok tm e1 d q1
          obtain ⟨x, xs', bx, dx', rfl, t1, t2, t3, rx, rxs⟩ := id r
          obtain ⟨y, ys, by_, dy, rfl, t4, t5, t6, ry, rys⟩ := rxs
          obtain rfl : ys = [] := rys
          refine ⟨x, y, rfl, ?_⟩
          cases v with
          | ins wv k vals =>
            cases q3 : mt.lookup k with
            | none => simp only [disp, recv, List.head?_cons, tagOf, Option.bind_some, q3] at p1; exact p1.elim
            | some sem =>
              have E := hE k sem q3
              obtain ⟨pa, dx0, us0, b0, rfl, _, hp, _, _⟩ := rx.insR
              have ty : ∃ t, TyX X.K H1 y t ∧ PySem.W.notFirst X.K (c.cA k) t = true := by
                obtain ⟨kk, f, fd, ps, _, _, _, _, _, nf⟩ := E.ok
                have data : ∀ T', tyS w = some T' → ∃ t, TyX X.K H1 y t ∧ PySem.W.notFirst X.K (c.cA k) t = true := fun T' ht =>
                  ⟨.type T', by rw [D.K]; exact tyx_S ry ht, by unfold PySem.W.notFirst; rw [tyS_ok ht]; simp⟩
                cases w with
                | ins w2 k2 vals2 =>
                  obtain ⟨x2, T2⟩ := A k2 oth
                  obtain ⟨pb, dx2, us2, b2', rfl, _, hp2, _, _⟩ := ry.insR
                  exact ⟨.ref (c.cA k2), .base (.ins hp2 T2.cl T2.ca G.sp G.tk T2.mo), nf k2 oth⟩
                | non => exact data _ rfl
                | bl _ => exact data _ rfl
                | int _ => exact data _ rfl
                | str _ => exact data _ rfl
                | tup _ => exact data _ rfl
                | lst _ _ => exact data _ rfl
                | dct _ _ _ => exact data _ rfl
                | con _ => cases oth
                | exc _ _ => cases oth
                | st _ _ => cases oth
              obtain ⟨t, ty, nf⟩ := ty
              refine ⟨pa, k, dx0, _, sem, t, rfl, hp, E, ty, nf, ?_⟩
              have p2 : Post c W relB σ H1 F1 (Uni Emp (Uni a1 b1)) (match takeAll [oa, ob] us ρ1 with | none => .bad | some (vs, ρ2) => match sem (vs ++ []) with
                | .ok (.bl r) ws => .ok r (giveAll [oa, ob] vs ws ρ2)
                | _ => .bad) (fun d H1 => Q (.bl d) H1) := by
                rw [q1]
                simp only [disp, recv, List.head?_cons, tagOf, Option.bind_some, q3, List.append_nil] at p1 ⊢
                cases q4 : sem [PV.ins wv k vals, w] with
                | ok v' ws => rw [q4] at p1; exact p1
                | er z ws => rw [q4] at p1; exact p1
                | bad => rw [q4] at p1; exact p1
              refine ⟨rfl, _, F1, a2, g1.sub (fun q z => (s1 q z).elim (fun z => .inr (.inl z)) fun z => .inr (.inr z)), r, ?_⟩
              rw [q1] at p2
              simp only [List.append_nil] at p2
              have sb2 : Sub b2 (Uni Emp (Uni a1 b1)) := s2.trans (Sub.r.trans Sub.r)
              have sa2 : Sub a2 (Uni Emp (Uni a1 b1)) := fun q z => (s1 q z).elim (fun z => .inr (.inl z)) fun z => .inr (.inr z)
              cases q4 : sem [PV.ins wv k vals, w] with
              | bad => rw [q4] at p2; exact p2.elim
              | er z ws => rw [q4] at p2; exact p2.elim
              | ok v' ws =>
                rw [q4] at p2
                cases v' with
                | bl rb =>
                  intro x' H' F' a3 b3 s3 g3 d3 rv rw'
                  have l1 : Dis (Uni a3 b3) b2 := (s3.apart (g1.sub sb2) d2.sym).sym
                  have l2 : Good H' F' b2 := (g1.sub sb2).kept s3 g3 d2.sym
                  have l3 : RE c H' F' ρ2 σ b2 := e2.step (g1.sub sa2) s3 d2.sym
                  have l4 : Stp H1 F1 (Uni Emp (Uni a1 b1)) H' F' (Uni b2 (Uni a3 b3)) := (s3.frame (B := b2)).more (Sub.uni sb2 sa2)
                  have e4 := give_ok (os := [oa, ob]) (vs := [PV.ins wv k vals, w]) (xs := [.ref pa, y]) (ys := []) tm.nms (by simpa using rw') l3 (fun q y z => l1 q (.inr y) z)
                  obtain rfl : x' = V.bl rb := rv
                  refine ⟨rb, rfl, p2 rb H' F' Emp (Uni b3 b2) (l4.drop ?_) ((g3.uni l2).sub ?_) Dis.empl rfl e4⟩
                  · exact fun q y => y.elim False.elim fun z => z.elim (fun z => .inr (.inr z)) .inl
                  · exact fun q y => y.elim False.elim fun z => z.elim (fun z => .inl (.inr z)) .inr
                | _ => exact p2.elim
          | _ => simp only [disp, recv, List.head?_cons, tagOf, Option.bind_none] at p1; exact p1.elim
        · rw [if_neg oth] at p1; exact p1.elim
      | [] => exact p1.elim
      | [_] => exact p1.elim
      | _ :: _ :: _ :: _ => exact p1.elim
theorem e_eqI (D : Dk X c W j) (A : CTs X.K X.mg c tg) (G : XG X.K) (hE : EqsOk X c j tg mt) (ha : SO X c W a oa) (hb : SO X c W b ob) : SE X c W (.Compare a [.Eq] [b] pos) (eT (tEqI tg mt oa ob)) :=
  PE.weak (pe_cmpR (op_eqI D) ha hb (nomark _)) fun σ H Q q => eq_q D.s A G hE (eT_bl q)
end
end Tr
set_option Elab.async false
set_option linter.all false
set_option maxRecDepth 100000
set_option maxHeartbeats 4000000
/-! Tr.I5: own len, x[i], x[i] = v. -/
namespace Tr
open PySem PySem.Spec PyProof.Rows L2
end Tr
set_option Elab.async false
set_option linter.all false
set_option maxRecDepth 100000
set_option maxHeartbeats 4000000
/-! Tr.I6: a list in a field changed in place. -/
namespace Tr
open PySem PySem.Spec PyProof.Rows L2
theorem set_same {α : Type} : ∀ {xs : List α} {i : Nat} {x : α}, xs[i]? = some x → xs.set i x = xs
  | [], _, _, h => by simp at h
  | y :: ys, 0, x, h => by simp at h; rw [h]; rfl
  | y :: ys, i + 1, x, h => by rw [List.set_cons_succ, set_same (by simpa using h)]
section
variable {X : Cx} {c : RC} {W : WX} {fx : Nat → Bool} {i m y : Nat} {x z : Str} {e : Expr} {fe : EF} {pos p p1 p2 p3 apos : Pos} {tb : Tb} {f : Str}
theorem Rs.erase : ∀ {H : Hp} {F : AS} {xs : List PV} {vs : List V} {a : AS} {l : Nat}, Rs c H F xs vs a → Rs c H F (xs.eraseIdx l) (vs.eraseIdx l) a
  | _, _, [], _, _, _, h => by rw [show _ = [] from h]; exact rfl
  | _, _, x :: xs, _, _, 0, ⟨v, vs, b, d, e, sb, sd, k, r, rs⟩ => by rw [e]; exact rs.mono sd
  | _, _, x :: xs, _, _, l + 1, ⟨v, vs, b, d, e, sb, sd, k, r, rs⟩ => by rw [e]; exact ⟨v, _, b, d, rfl, sb, sd, k, r, rs.erase⟩
end
end Tr
set_option Elab.async false
set_option linter.all false
set_option maxRecDepth 100000
set_option maxHeartbeats 4000000
/-! Tr.Z: zip of two tuples; the pairs have no dict. -/
namespace Tr
open PySem PySem.Spec PyProof.Rows L2
end Tr
set_option Elab.async false
set_option linter.all false
set_option maxRecDepth 100000
set_option maxHeartbeats 4000000
/-! Tr.I7: fields looked at beside a name; zip; isinstance(x, (T, U)); int(text); t.index(x). -/
namespace Tr
open PySem PySem.Spec PyProof.Rows L2
section
variable {X : Cx} {c : RC} {W : WX} {tb tc : Tb} {f g : Str} {i j m n : Nat} {x y : Str} {pos p p1 p2 p3 p4 : Pos} {op : CmpOp} {r : R2} {k : PV → PV → Option Bool}
theorem e_cmp2 (T : FdOk X.K c tb f) (T2 : FdOk X.K c tc g) (ho : OpR X (compareOp op) r) (hk : C2 c r k) (hv : PE X (.Name x p) (tVar i)) (hz : PE X (.Name y p3) (tVar m)) (hm : behindInMarks op (.Attribute (.Name y p3) g p4) = false) (hb : attributeBase (.Name x p) f X.env (eval (.Name x p) X.env) = eval (.Name x p) X.env := by rfl) (hb2 : attributeBase (.Name y p3) g X.env (eval (.Name y p3) X.env) = eval (.Name y p3) X.env := by rfl) :
    SE X c W (.Compare (.Attribute (.Name x p) f p1) [op] [.Attribute (.Name y p3) g p4] pos) (eT (tPV2 (pj2 tb tc k) (.nm i) (.nm m))) :=
  PE.weak (pe_cmpR ho (pe_fld hv hb) (pe_fld hz hb2) hm) fun σ H Q q => fld2_q T T2 (eT_bl q) fun v w x y z ρ1 F1 A1 bb g sb e ⟨_, _, r1⟩ ⟨_, _, r2⟩ kk p => hk v w z x y _ _ _ _ _ (g.sub Sub.emp) r1 r2 kk (p.now g sb rfl e)
end
/-! ### zip -/
section
variable {X : Cx} {c : RC} {W : WX} {a b : Expr} {oa ob : Opd} {pos p tpos : Pos} {elts : List Expr} {kk : Nat}
def FzLs (c : RC) (p : Addr) (xs : List PV) (H : Hp) (F : AS) : Prop := ∃ vs, FzL H F p vs ∧ Rs c H F xs vs Emp
def FzTs (c : RC) (p : Addr) (xs : List PV) (H : Hp) (F : AS) : Prop := ∃ vs, SqT c.K H p vs ∧ Rs c H F xs vs Emp
theorem FzLs.step {q : Addr} {xs : List PV} {H H' : Hp} {F A F' A' : AS} (h : FzLs c q xs H F) (g : Good H F A) (s : Stp H F A H' F' A') : FzLs c q xs H' F' := by
  obtain ⟨vs, h1, h2⟩ := h; exact ⟨vs, h1.step g s, h2.step g s Dis.empl⟩
theorem FzTs.step {q : Addr} {xs : List PV} {H H' : Hp} {F A F' A' : AS} (h : FzTs c q xs H F) (g : Good H F A) (s : Stp H F A H' F' A') : FzTs c q xs H' F' := by
  obtain ⟨vs, h1, h2⟩ := h; exact ⟨vs, SqT.step g s h1, h2.step g s Dis.empl⟩
end
/-! ### isinstance(x, (T, U)) -/
section
variable {X : Cx} {c : RC} {W : WX} {o : Expr} {oo : Opd} {pos p p2 p3 tp : Pos} {tk : _} {x1 x2 : Str}
theorem isA_ty {T : Ty} {v : PV} {z : Bool} (h : isA T v = some z) : ∃ n, tyP v = some n := by
  cases v <;> first | exact ⟨_, rfl⟩ | (cases T <;> cases h)
theorem isA_kit {K : PySem.W.Frag} {T : Ty} {v : PV} {z : Bool} {n : String} (e : tyP v = some n) (h : isA T v = some z) : PySem.W.kitOne K (.type n) (.type (tyN T)) = some z := by
  refine kit_ty ?_
  cases v <;> cases e <;> cases T <;> cases h <;> decide +kernel
theorem e_isa2 (D : Ds X c) (T U : Ty) (hm : X.mg "isinstance" = none) (hg : Gl X "isinstance") (hm1 : X.mg x1 = none) (hg1 : Gl X x1) (hb1 : bootBuiltins x1 = some (.type (tyN T))) (hm2 : X.mg x2 = none) (hg2 : Gl X x2) (hb2 : bootBuiltins x2 = some (.type (tyN U)))
    (hn1 : x1 ≠ "__name__") (hd1 : (x1 == ("__debug__" : Str)) = false) (hn2 : x2 ≠ "__name__") (hd2 : (x2 == ("__debug__" : Str)) = false) (ho : SO X c W o oo)
    (st : starEach [o, .Tuple [.Name x1 p2, .Name x2 p3] tk tp] X.env = (false, eval o X.env) :: starEach [.Tuple [.Name x1 p2, .Name x2 p3] tk tp] X.env := by rfl)
    (st2 : starEach [.Tuple [.Name x1 p2, .Name x2 p3] tk tp] X.env = (false, eval (.Tuple [.Name x1 p2, .Name x2 p3] tk tp) X.env) :: starEach [] X.env := by rfl) (he : (backTo pos (starEach [.Tuple [.Name x1 p2, .Name x2 p3] tk tp] X.env)).any (·.1) = false := by rfl)
    (s1 : starEach [.Name x1 p2, .Name x2 p3] X.env = (false, eval (.Name x1 p2) X.env) :: starEach [.Name x2 p3] X.env := by rfl) (s2 : starEach [.Name x2 p3] X.env = (false, eval (.Name x2 p3) X.env) :: starEach [] X.env := by rfl) :
    SE X c W (.Call (.Name "isinstance" p) [o, .Tuple [.Name x1 p2, .Name x2 p3] tk tp] [] pos) (eT (tPV (isA2 T U) oo)) := by
  have e1 : PE X (.Name x1 p2) (tC (.ty (tyN T))) := pe_bltn hg1 hm1 hb1 rfl hn1 hd1
  have e2 : PE X (.Name x2 p3) (tC (.ty (tyN U))) := pe_bltn hg2 hm2 hb2 rfl hn2 hd2
  have pt := pe_tup (x1 := tk) (pos := tp) (pa_cons e1 (pa_cons e2 pa_nil s2) s1)
  refine PE.weak (pe_callB call_isiT hg hm (by decide +kernel) (pa_cons ho (pa_cons pt pa_nil st2) st) (by decide) (by decide) st he) fun σ H Q q => ?_
  refine tO.one (eT_bl q) fun v x y ρ1 H1 F1 A1 bb g sb e ⟨_, _, r⟩ kq pp => ?_
  refine ⟨(by decide : 2 ≤ sizeLine), fun t ht => ?_⟩
  unfold isA2 at kq
  cases q1 : isA T v with
  | none => rw [q1] at kq; cases kq
  | some b1 =>
    cases q2 : isA U v with
    | none => rw [q1, q2] at kq; cases kq
    | some b2 =>
      rw [q1, q2] at kq
      cases kq
      obtain ⟨n, hn⟩ := isA_ty q1
      have stp : Stp H1 F1 Emp (upd H1 t (.tup [.ty (tyN T), .ty (tyN U)])) F1 Emp := Stp.newT ht
      have gE : Good H1 F1 Emp := g.sub Sub.emp
      have r2 := r.step gE stp Dis.empr
      refine ⟨_, t, _, .type n, [.type (tyN T), .type (tyN U)], b1 || b2, rfl, upd_same, .cons (.ty _) (.cons (.ty _) .nil), by rw [D.K]; exact tyx_of r2 hn, ?_, ?_⟩
      · unfold PySem.W.kitAny
        rw [isA_kit hn q1]
        cases b1 with
        | true => rfl
        | false =>
          show PySem.W.kitAny X.K (.type n) [.type (tyN U)] = some b2
          unfold PySem.W.kitAny
          rw [isA_kit hn q2]
          cases b2 <;> rfl
      · exact pp _ _ F1 Emp bb ((Stp.newT ht).drop (Sub.uni Sub.emp sb)) ((g.newT ht).sub (Sub.uni Sub.emp sb)) Dis.empl rfl (RE.step (g.sub Sub.emp) stp e Dis.empr)
end
end Tr
set_option Elab.async false
set_option linter.all false
/-! Tr.Set: set(list of ints), and what is sorted of it. -/
namespace Tr
open PySem PySem.Spec PyProof.Rows L2
section
variable {P : Program} {w : World} {A : Around} {E : Value → Shared → Prop} {s : Shared}
/-- the object that set.__new__ lays -/
abbrev set0 (w : World) : Obj := { cls := .type "set", dict := none, data := .set #[] 0 (.fresh 0 0 (!w.params.followText "set-order")) }
end
end Tr
namespace Tr
open PySem PySem.Spec L2
end Tr
set_option Elab.async false
set_option linter.all false
set_option maxRecDepth 100000
/-! Tr.SetS: len(set(tuple of texts)). -/
namespace Tr
open PySem PySem.Spec PyProof.Rows L2
section
variable {P : Program} {w : World} {A : Around}
theorem take_any (xs : List Str) {i : Nat} (h : i < xs.length) (k : Str) : (xs.take (i + 1)).any (· == k) = ((xs.take i).any (· == k) || decide (k = xs.getD i Str.empty)) := by
  rw [List.take_succ_eq_append_getElem h, List.any_append]
  congr 1
  rw [List.getD_eq_getElem?_getD, List.getElem?_eq_getElem h]
  show ((xs[i] == k) || false) = decide (k = xs[i])
  rw [Bool.or_false]
  by_cases e : k = xs[i]
  · subst e; simp
  · have : (xs[i] == k) = false := by simpa [beq_iff_eq] using fun z : xs[i] = k => e z.symm
    simp [this, e]
theorem set_update_strs {R : Result → Shared → Prop} {I : Addr} {fp wr : List Addr} {G : Array GenState → Array GenState → Prop} {n : Nat} {Pv : Nat → Value → Prop} {St : Nat → Shared → Prop}
    (W : WalksS P w A.in1 I fp wr G n Pv St) (S : Addr) (hSf : S ∉ fp) (xs : List Str) (hsz : xs.length = n) (hn1 : n + 1 < scanBound) (hval : ∀ i v, Pv i v → ∃ t, v = .str (xs.getD i Str.empty) t) :
    ∀ (k i : Nat) (s : Shared), n - i = k → i ≤ n → St i s → s.heap.SetOf (PySem.strKind P w) S (fun k' => (xs.take i).any (· == k')) (dcount xs i) →
      (∀ s', Moved (S :: wr) G s s' → s'.heap.SetOf (PySem.strKind P w) S (fun k' => (xs.take n).any (· == k')) (dcount xs n) → R (.ok (.ret .none)) s') →
      codeAny (model P w) A (.builtin "set.update.loop" ⟨[.ref S, .ref I], []⟩) R s := by
  have nw : S ∉ wr := fun h => hSf (W.sub _ h)
  have up : ∀ b ∈ wr, b ∈ S :: wr := fun b hb => List.mem_cons_of_mem _ hb
  intro k
  induction k with
  | zero =>
    intro i s hk hi st hS hR
    obtain rfl : i = n := by omega
    refine codeAny_builtin PyProof.Rows.F.entry_set_update_loop ?_
    rw [Around.under_plainId PyProof.Rows.F.plain_set_update_loop _]
    show wpAny _ A.in1 (pyNext (.ref I) >>= _) _ _ s
    refine wpAny_bind (W.done s _ _ st fun s' hm => ?_)
    show wpAny _ A.in1 (ret Value.none) _ _ s'
    obtain ⟨o, es, ep, t, ho, rest⟩ := hS
    exact wpAny_pure (hR s' (hm.mono up) ⟨o, es, ep, t, hm.heap S _ nw ho, rest⟩)
  | succ k ih =>
    intro i s hk hi st hS hR
    have lt : i < n := by omega
    refine codeAny_builtin PyProof.Rows.F.entry_set_update_loop ?_
    rw [Around.under_plainId PyProof.Rows.F.plain_set_update_loop _]
    show wpAny _ A.in1 (pyNext (.ref I) >>= _) _ _ s
    refine wpAny_bind (W.item i s _ _ lt st fun v s' hP st' hm => ?_)
    obtain ⟨t, rfl⟩ := hval i v hP
    have hS' : s'.heap.SetOf (PySem.strKind P w) S (fun k' => (xs.take i).any (· == k')) (dcount xs i) := by
      obtain ⟨o, es, ep, tb, ho, rest⟩ := hS
      exact ⟨o, es, ep, tb, hm.heap S _ nw ho, rest⟩
    show wpAny _ A.in1 (holding [Value.str (xs.getD i Str.empty) t] (setAdd S (.str (xs.getD i Str.empty) t)) >>= _) _ _ s'
    refine wpAny_bind (wpAny_holding ?_)
    unfold setAdd
    refine wpAny_holding ?_
    refine wpAny_bind ((PySem.strKind P w).pyHash (k := xs.getD i Str.empty) (strKind_is _ _ _ _) ?_)
    refine wpAny_setAddHashed_of (knd := PySem.strKind P w) (s := { s' with toks := s'.toks + 1 }) (strKind_is _ _ _ _) rfl hS' (by have := dcount_le xs i; omega) fun h' hsb hS2 => ?_
    have hSi : h'.SetOf (PySem.strKind P w) S (fun k' => (xs.take (i + 1)).any (· == k')) (dcount xs (i + 1)) := SetOf_congr hS2 (fun k' => (take_any xs (by omega) k').symm) (by rw [dcount])
    refine wpAny_pure ⟨plainId_quiet PyProof.Rows.F.plain_set_update_loop _, ih (i + 1) _ (by omega) lt (W.frame _ s' _ _ st' (Nat.le_succ _) fun b hb o e => ?_) hSi fun s'' hm'' hS'' => ?_⟩
    · rw [hsb.2 b (fun h : b = S => hSf (by rw [← h]; exact hb))]; exact e
    · refine hR s'' (Moved.trans W.gtrans ((hm.mono up).then_heap (Nat.le_succ _) fun b o hb e => ?_) hm'') hS''
      rw [hsb.2 b (fun h : b = S => hb (by rw [h]; exact List.mem_cons_self))]; exact e
end
end Tr
set_option Elab.async false
set_option linter.all false
set_option maxRecDepth 100000
/-! Tr.I8: len(set(tuple of texts)); t.index(x); int(text). -/
namespace Tr
open PySem PySem.Spec PyProof.Rows L2
section
variable {P : Program} {w : World} {A : Around} {E : Value → Shared → Prop} {s : Shared}
set_option maxHeartbeats 3200000 in
theorem tr_set_tup {l : Addr} {items : Array Value} (xs : List Str) {Q : Value → Shared → Prop} (hh : A.handled = none) (hl : s.heap.IsTuple l items) (hit : StrsAre items.toList xs) (hb : xs.length + 1 < scanBound)
    (h : ∀ (h' : Heap) (tk : Nat), h'.SetOf (PySem.strKind P w) s.heap.objs.size (fun k' => (xs.take items.size).any (· == k')) (dcount xs xs.length) → (∀ b o, s.heap.get? b = some o → h'.get? b = some o) → Q (.ref s.heap.objs.size) { s with heap := h', toks := tk }) :
    wpAny (model P w) A (call (.type "set") [.ref l]) Q E s := by
  have hn : xs.length = items.size := by rw [← StrsAre.len_eq hit, Array.length_toList]
  obtain ⟨c, tl, hmro⟩ := F.called_set.mro
  have hmade := F.called_set.made
  have hsub := F.called_set.sub
  refine wpAny_call (codeAny_of_tree ?_)
  show wpAny _ _ (callAny (.type "set") _) _ _ _
  refine wpAny_pure ⟨Code.quiet_builtin _ (by decide +kernel), codeAny_builtin F.entry_type_call ?_⟩
  rw [Around.under_plain (weight_type_call_type "set" [.ref l] []) rfl]
  have t1 := F.called_set.notType
  have t2 := F.called_set.canCreate
  have t3 := F.typeCall_set_1 (.ref l)
  repeat (any_goals (first | assumption | wp_step))
  refine codeAny_mono (code_set_led1 (.ref l) (E := E) (Q₁ := fun obj s₁ => obj = .ref s.heap.objs.size ∧ s₁ = { s with heap := s.heap.push (set0 w) }) ⟨rfl, rfl⟩) fun r s₁ hr => ?_
  cases r with
  | error e => exact hr
  | ok fl =>
    cases fl with
    | ret obj =>
      obtain ⟨rfl, rfl⟩ := hr
      have at0 : (s.heap.push (set0 w)).get? s.heap.objs.size = some (set0 w) := Heap.get?_push_size _ rfl
      have ty0 : Shared.TypeIs { s with heap := s.heap.push (set0 w) } (.ref s.heap.objs.size) "set" := ⟨_, at0, rfl⟩
      have t4 := F.called_set.init.lookup
      have t5 := F.called_set.init.bind (.ref s.heap.objs.size)
      repeat (any_goals (first | assumption | wp_step))
      refine codeAny_mono (codeAny_call_builtin (R := wants (fun r s₂ => r = .none ∧ ∃ h' tk, s₂ = { s with heap := h', toks := tk } ∧ h'.SetOf (PySem.strKind P w) s.heap.objs.size (fun k' => (xs.take items.size).any (· == k')) (dcount xs xs.length) ∧
          (∀ b o, s.heap.get? b = some o → h'.get? b = some o)) E) F.called_set.init.plain F.entry_set_init (check_set_init_1 ty0 ?_)) fun r₂ s₂ hr₂ => ?_
      · obtain ⟨⟨ocls, odict, odata, oslots⟩, hol, hcl, nl, hdl⟩ := hl
        simp only at hcl hdl
        subst hcl; subst hdl
        have lt : l < s.heap.objs.size := Heap.lt_size hol
        have sz : (s.heap.push (set0 w)).objs.size = s.heap.objs.size + 1 := Heap.size_push ..
        have ne1 : l ≠ (s.heap.push (set0 w)).objs.size := by rw [sz]; exact Nat.ne_of_lt (Nat.lt_succ_of_lt lt)
        have ol : (s.heap.push (set0 w)).get? l = some { cls := .type "tuple", dict := odict, data := .seq items nl, slots := oslots } := Heap.get?_push_of_some _ hol
        have isl : (s.heap.push (set0 w)).IsTuple l items := ⟨_, ol, rfl, nl, rfl⟩
        have u1 := F.sub_tuple_set
        have u2 := F.sub_tuple_frozenset
        have u3 : (Value.type "tuple" == Value.type "dict") = false := by decide
        unfold Builtin.«set.__init__» noKeywords Builtin.Frozenset.updateFrom
        generalize hPI : pyIter = PI
        wp_walk
        subst hPI
        refine wpAny_pyIter_tuple isl (wpAny_bind (wpAny_runValue ?_))
        have out : s.heap.objs.size ∉ [(s.heap.push (set0 w)).objs.size, l] := by
          simp only [List.mem_cons, List.not_mem_nil, or_false, not_or]
          exact ⟨by rw [sz]; exact Nat.ne_of_lt (Nat.lt_succ_self _), Nat.ne_of_gt lt⟩
        refine set_update_strs ((Walks.tuple (show A.in1.in1.in1.handled = none by simp [hh]) _ l ne1 items).toS) s.heap.objs.size out xs hn (by omega) (fun i v hv => SS.strs_at hit i v (by rw [Array.getElem?_toList]; exact hv)) (items.size - 0) 0 _ (by omega) (Nat.zero_le _)
          ⟨⟨_, Heap.get?_push_size _ rfl, rfl, rfl⟩, (isl.push _)⟩ ?hS0 fun s' hm hS' => ?hR
        case hS0 =>
          exact PyProof.Rows.SetOf_congr ((PyProof.Rows.setObjOf_fresh (knd := PySem.strKind P w) _).setOf (Heap.get?_push_of_some _ at0) (by unfold scanBound; omega)) (fun _ => rfl) rfl
        case hR =>
          obtain ⟨h', g2, d', tk', os'⟩ := s'
          obtain rfl : g2 = s.gens := hm.gens
          obtain rfl : d' = s.drawn := hm.drawn
          obtain rfl : os' = s.os := hm.os
          show wpAny _ _ _ _ _ _
          refine wpAny_pure ?_
          show wpAny _ _ (ret Value.none) _ _ _
          refine wpAny_pure ⟨rfl, h', tk', rfl, by rw [hn]; exact hS', fun b o e => ?_⟩
          have lb : b < s.heap.objs.size := Heap.lt_size e
          exact hm.heap b o (by simp only [List.mem_cons, List.not_mem_nil, or_false, not_or]; exact ⟨Nat.ne_of_lt lb, by rw [sz]; exact Nat.ne_of_lt (Nat.lt_succ_of_lt lb)⟩) (Heap.get?_push_of_some _ (Heap.get?_push_of_some _ e))
      · cases r₂ with
        | error e => exact hr₂
        | ok fl₂ =>
          cases fl₂ with
          | ret r =>
            obtain ⟨rfl, h', tk, rfl, hS', hk'⟩ := hr₂
            repeat (any_goals (first | assumption | wp_step))
            exact h _ _ hS' hk'
          | _ => exact hr₂.elim
    | _ => exact hr.elim
end
section
variable {X : Cx} {c : RC} {W : WX} {k : Nat} {a b : Expr} {oa ob : Opd} {ta : TE} {p p2 q pos ap : Pos}
def tLenSetT (K : PySem.W.Frag) (ta : TE) : TE := fun σ H Q => ta σ H fun x H1 => ∃ l, ∃ xs : List Str, x = .ref l ∧ SqT K H1 l (xs.map V.str) ∧ xs.length ≤ 60 ∧ Q (.int (dcount xs xs.length : Nat)) H1
theorem pe_lenSetT (hc : X.calm = true) (hg : Gl X "len") (hm : X.mg "len" = none) (hg2 : Gl X "set") (hm2 : X.mg "set" = none) (ha : PE X a ta)
    (na : starEach [a] X.env = (false, eval a X.env) :: starEach [] X.env := by rfl) (na2 : starEach [.Call (.Name "set" p2) [a] [] q] X.env = (false, eval (.Call (.Name "set" p2) [a] [] q) X.env) :: starEach [] X.env := by rfl) : PE X (.Call (.Name "len" p) [.Call (.Name "set" p2) [a] [] q] [] pos) (tLenSetT X.K ta) := by
  refine ⟨fun pins s σ H Q I h => ?_⟩
  refine Call_ (ld_blt I hg hm boot_len ?_)
  refine PyProof.Rows.callWith_builtin1 (PyProof.Rows.args_cons ?_ rfl) rfl rfl
  refine Call_ (ld_blt I hg2 hm2 boot_set ?_)
  refine PyProof.Rows.callWith_type1 (PyProof.Rows.args_cons (thn (ha.run pins s σ H _ I h) fun v s1 ⟨x, H1, I1, r1, q1⟩ => PyProof.Rows.args_nil ?_) na) na rfl
  obtain ⟨l, xs, rfl, hq, h1, q1⟩ := q1
  cases r1
  obtain ⟨its, r, pl, hz⟩ := I1.tuple hq
  refine tr_set_tup xs (I1.ok.hd hc) pl (by simpa using strsAre_of r) (by unfold scanBound; omega) fun h' tk hS hk => ?_
  refine PyProof.Rows.args_nil ?_
  obtain ⟨o, es, ep, t, ho, hex, hd, _, _, _, hf, hn⟩ := hS
  have I2 : Inv X pins σ H1 { s1 with heap := h', toks := tk } := I1.kept fun b o e => hk b o e
  have := dcount_le xs xs.length
  refine call_len_set ho hex hd hf (by rw [hn]; omega) ⟨.int (dcount xs xs.length : Nat), H1, I2.tok _, ⟨_, by rw [hn]⟩, q1⟩
/-- len(set(a)) -/
theorem e_lenSet (D : Dk X c W k) (hm : X.mg "len" = none) (hg : Gl X "len") (hm2 : X.mg "set" = none) (hg2 : Gl X "set") (ha : SO X c W a oa)
    (na : starEach [a] X.env = (false, eval a X.env) :: starEach [] X.env := by rfl) (na2 : starEach [.Call (.Name "set" p2) [a] [] q] X.env = (false, eval (.Call (.Name "set" p2) [a] [] q) X.env) :: starEach [] X.env := by rfl) :
    SE X c W (.Call (.Name "len" p) [.Call (.Name "set" p2) [a] [] q] [] pos) (eP1 fLenSetS oa) := by
  refine PE.weak (pe_lenSetT D.calm hg hm hg2 hm2 ha na na2) fun σ H Q q => ?_
  refine tO.one q fun v x z ρ1 H1 F1 A1 b g sb e ⟨_, _, r⟩ kk p => ?_
  cases v with
  | tup xs =>
    simp only [fLenSetS] at kk
    cases ei : Tr.allS xs with
    | none => rw [ei] at kk; cases kk
    | some ss =>
      rw [ei, Option.bind_some] at kk
      split at kk
      · rename_i h60
        cases kk
        obtain ⟨p0, vs, rfl, s1, l1, rs⟩ := r.tupR
        obtain ⟨ev, _⟩ := rs.strs ei
        subst ev
        exact ⟨p0, ss, rfl, by rw [D.K]; exact s1, by simpa using h60, p.now g sb rfl e⟩
      · cases kk
  | _ => cases kk
end
end Tr
set_option Elab.async false
set_option linter.all false
set_option autoImplicit false
/-! Tr.Ev: the functions on trees, run by simp: every construct as an equation whose continuation stays closed. -/
namespace Tr.Ev
open Tr
open PySem (Str)
variable {ρ ρ' : Env} {e : PExc} {v w : PV}
/-! slots -/
@[simp] theorem slot_zero {a : Option PV} : slot (a :: ρ) 0 = a := by cases a <;> rfl
@[simp] theorem slot_succ {a : Option PV} {n : Nat} : slot (a :: ρ) (n + 1) = slot ρ n := (rfl)
/-! operands -/
def gN (ρ : Env) (o : Option PV) : Res (Option PV) := match o with
  | some _ => .ok none ρ
  | none => .bad
def gE (r : Res PV) : Res (Option PV) := match r with
  | .ok v ρ => .ok (some v) ρ
  | .er e ρ => .er e ρ
  | .bad => .bad
@[simp] theorem go_nm {i : Nat} : Opd.go (.nm i) ρ = gN ρ (slot ρ i) := (rfl)
@[simp] theorem gN_some : gN ρ (some v) = .ok none ρ := (rfl)
@[simp] theorem gN_none : gN ρ none = .bad := (rfl)
@[simp] theorem go_ev {f : EF} : Opd.go (.ev f) ρ = gE (f ρ) := by
  show (f ρ).bind (fun v ρ1 => .ok (some v) ρ1) = gE (f ρ)
  cases f ρ <;> rfl
@[simp] theorem gE_ok : gE (.ok v ρ) = .ok (some v) ρ := (rfl)
@[simp] theorem gE_er : gE (.er e ρ) = .er e ρ := (rfl)
@[simp] theorem gE_bad : gE .bad = .bad := (rfl)
@[simp] theorem get_nm {i : Nat} {t : Option PV} : Opd.get (.nm i) t ρ = slot ρ i := (rfl)
@[simp] theorem get_ev {f : EF} {t : Option PV} : Opd.get (.ev f) t ρ = t := (rfl)
section
variable {β : Type} {a b c : Opd} {k : PV → Option β} {k2 : PV → PV → Option β} {k3 : PV → PV → PV → Option β} {t u : Option PV}
def o1 (a : Opd) (k : PV → Option β) : Res (Option PV) → Res β
  | .ok t ρ => .of ((a.get t ρ).bind k) ρ
  | .er e ρ => .er e ρ
  | .bad => .bad
theorem op1_eq : op1 a k ρ = o1 a k (a.go ρ) := by unfold op1 o1; cases a.go ρ <;> rfl
@[simp] theorem o1_ok : o1 a k (.ok t ρ) = .of ((a.get t ρ).bind k) ρ := (rfl)
@[simp] theorem o1_er : o1 a k (.er e ρ) = .er e ρ := (rfl)
@[simp] theorem o1_bad : o1 a k .bad = .bad := (rfl)
def o2b (a b : Opd) (k : PV → PV → Option β) (t : Option PV) : Res (Option PV) → Res β
  | .ok u ρ => .of ((a.get t ρ).bind fun v => (b.get u ρ).bind fun w => k v w) ρ
  | .er e ρ => .er e ρ
  | .bad => .bad
def o2 (a b : Opd) (k : PV → PV → Option β) : Res (Option PV) → Res β
  | .ok t ρ => o2b a b k t (b.go ρ)
  | .er e ρ => .er e ρ
  | .bad => .bad
theorem op2_eq : op2 a b k2 ρ = o2 a b k2 (a.go ρ) := by
  unfold op2 o2
  cases a.go ρ with
  | ok t ρ1 => simp only [Res.bind_ok]; unfold o2b; cases b.go ρ1 <;> rfl
  | er => rfl
  | bad => rfl
@[simp] theorem o2_ok : o2 a b k2 (.ok t ρ) = o2b a b k2 t (b.go ρ) := (rfl)
@[simp] theorem o2_er : o2 a b k2 (.er e ρ) = .er e ρ := (rfl)
@[simp] theorem o2_bad : o2 a b k2 .bad = .bad := (rfl)
@[simp] theorem o2b_ok : o2b a b k2 t (.ok u ρ) = .of ((a.get t ρ).bind fun v => (b.get u ρ).bind fun w => k2 v w) ρ := (rfl)
@[simp] theorem o2b_er : o2b a b k2 t (.er e ρ) = .er e ρ := (rfl)
@[simp] theorem o2b_bad : o2b a b k2 t .bad = .bad := (rfl)
end
@[simp] theorem eP1_eq {k : PV → Option PV} {a : Opd} : eP1 k a ρ = o1 a k (a.go ρ) := op1_eq
@[simp] theorem tPV_eq {k : PV → Option Bool} {a : Opd} : tPV k a ρ = o1 a k (a.go ρ) := op1_eq
@[simp] theorem eP2_eq {k : PV → PV → Option PV} {a b : Opd} : eP2 k a b ρ = o2 a b k (a.go ρ) := op2_eq
@[simp] theorem tPV2_eq {k : PV → PV → Option Bool} {a b : Opd} : tPV2 k a b ρ = o2 a b k (a.go ρ) := op2_eq
/-! chains -/
section
variable {k l : PV → PV → Option Bool} {a b d : Opd} {t u x : Option PV}
def ch3 (b d : Opd) (l : PV → PV → Option Bool) (u : Option PV) : Res (Option PV) → Res Bool
  | .ok x ρ => .of ((b.get u ρ).bind fun w => (d.get x ρ).bind fun z => l w z) ρ
  | .er e ρ => .er e ρ
  | .bad => .bad
def ch2 (b d : Opd) (l : PV → PV → Option Bool) (u : Option PV) : Res Bool → Res Bool
  | .ok true ρ => ch3 b d l u (d.go ρ)
  | .ok false ρ => .ok false ρ
  | .er e ρ => .er e ρ
  | .bad => .bad
def ch1 (a b d : Opd) (k l : PV → PV → Option Bool) (t : Option PV) : Res (Option PV) → Res Bool
  | .ok u ρ => ch2 b d l u (.of ((a.get t ρ).bind fun v => (b.get u ρ).bind fun w => k v w) ρ)
  | .er e ρ => .er e ρ
  | .bad => .bad
def ch0 (a b d : Opd) (k l : PV → PV → Option Bool) : Res (Option PV) → Res Bool
  | .ok t ρ => ch1 a b d k l t (b.go ρ)
  | .er e ρ => .er e ρ
  | .bad => .bad
@[simp] theorem tCh_eq : tCh k l a b d ρ = ch0 a b d k l (a.go ρ) := by
  unfold tCh ch0
  cases a.go ρ with
  | ok t ρ1 =>
    simp only [Res.bind_ok]
    unfold ch1
    cases b.go ρ1 with
    | ok u ρ2 =>
      simp only [Res.bind_ok]
      unfold ch2
      cases q : (Res.of ((a.get t ρ2).bind fun v => (b.get u ρ2).bind fun w => k v w) ρ2 : Res Bool) with
      | ok r ρ3 =>
        cases r with
        | true => simp only [Res.bind_ok, if_true]; unfold ch3; cases d.go ρ3 <;> rfl
        | false => rfl
      | er => rfl
      | bad => rfl
    | er => rfl
    | bad => rfl
  | er => rfl
  | bad => rfl
@[simp] theorem ch0_ok : ch0 a b d k l (.ok t ρ) = ch1 a b d k l t (b.go ρ) := (rfl)
@[simp] theorem ch1_ok : ch1 a b d k l t (.ok u ρ) = ch2 b d l u (.of ((a.get t ρ).bind fun v => (b.get u ρ).bind fun w => k v w) ρ) := (rfl)
@[simp] theorem ch2_t : ch2 b d l u (.ok true ρ) = ch3 b d l u (d.go ρ) := (rfl)
@[simp] theorem ch2_f : ch2 b d l u (.ok false ρ) = .ok false ρ := (rfl)
@[simp] theorem ch3_ok : ch3 b d l u (.ok x ρ) = .of ((b.get u ρ).bind fun w => (d.get x ρ).bind fun z => l w z) ρ := (rfl)
end
/-! expressions -/
@[simp] theorem eC_eq : eC v ρ = .ok v ρ := (rfl)
def nmS (i : Nat) (ρ : Env) : Option PV → Res PV
  | some v => .ok (frz v) (ρ.set i (some (frz v)))
  | none => .bad
def mvS (i : Nat) (ρ : Env) : Option PV → Res PV
  | some v => .ok v (ρ.set i none)
  | none => .bad
@[simp] theorem eNm_eq {i : Nat} : eNm i ρ = nmS i ρ (slot ρ i) := by unfold eNm nmS; cases slot ρ i <;> rfl
@[simp] theorem eMv_eq {i : Nat} : eMv i ρ = mvS i ρ (slot ρ i) := by unfold eMv mvS; cases slot ρ i <;> rfl
@[simp] theorem nmS_some {i : Nat} : nmS i ρ (some v) = .ok (frz v) (ρ.set i (some (frz v))) := (rfl)
@[simp] theorem mvS_some {i : Nat} : mvS i ρ (some v) = .ok v (ρ.set i none) := (rfl)
def ac2 (v : PV) : Res (List PV) → Res (List PV)
  | .ok vs ρ => .ok (v :: vs) ρ
  | .er e ρ => .er e ρ
  | .bad => .bad
def ac1 (g : AF) : Res PV → Res (List PV)
  | .ok v ρ => ac2 v (g ρ)
  | .er e ρ => .er e ρ
  | .bad => .bad
@[simp] theorem aNil_eq : aNil ρ = .ok [] ρ := (rfl)
@[simp] theorem aCons_eq {f : EF} {g : AF} : aCons f g ρ = ac1 g (f ρ) := by
  unfold aCons ac1
  cases f ρ with
  | ok v ρ1 => simp only [Res.bind_ok]; unfold ac2; cases g ρ1 <;> rfl
  | er => rfl
  | bad => rfl
@[simp] theorem ac1_ok {g : AF} : ac1 g (.ok v ρ) = ac2 v (g ρ) := (rfl)
@[simp] theorem ac2_ok {vs : List PV} : ac2 v (.ok vs ρ) = .ok (v :: vs) ρ := (rfl)
def mapR {α β : Type} (f : α → β) : Res α → Res β
  | .ok a ρ => .ok (f a) ρ
  | .er e ρ => .er e ρ
  | .bad => .bad
@[simp] theorem mapR_ok {α β : Type} {f : α → β} {a : α} : mapR f (.ok a ρ) = .ok (f a) ρ := (rfl)
@[simp] theorem eTup_eq {g : AF} : eTup g ρ = mapR PV.tup (g ρ) := by unfold eTup mapR; cases g ρ <;> rfl
@[simp] theorem eLst_eq {g : AF} : eLst g ρ = mapR (PV.lst true) (g ρ) := by unfold eLst mapR; cases g ρ <;> rfl
@[simp] theorem eT_eq {t : TF} : eT t ρ = mapR PV.bl (t ρ) := by unfold eT mapR; cases t ρ <;> rfl
@[simp] theorem tNot_eq {t : TF} : tNot t ρ = mapR (fun b => !b) (t ρ) := by unfold tNot mapR; cases t ρ <;> rfl
def unB : Res PV → Res Bool
  | .ok (.bl b) ρ => .ok b ρ
  | .ok _ _ => .bad
  | .er e ρ => .er e ρ
  | .bad => .bad
@[simp] theorem tE_eq {f : EF} : tE f ρ = unB (f ρ) := by
  unfold tE unB
  cases f ρ with
  | ok v ρ1 => cases v <;> rfl
  | er => rfl
  | bad => rfl
@[simp] theorem unB_ok {b : Bool} : unB (.ok (.bl b) ρ) = .ok b ρ := (rfl)
def andR (u : TF) : Res Bool → Res Bool
  | .ok b ρ => if b = true then u ρ else .ok false ρ
  | .er e ρ => .er e ρ
  | .bad => .bad
def orR (u : TF) : Res Bool → Res Bool
  | .ok b ρ => if b = true then .ok true ρ else u ρ
  | .er e ρ => .er e ρ
  | .bad => .bad
@[simp] theorem tAnd_eq {t u : TF} : tAnd t u ρ = andR u (t ρ) := by unfold tAnd andR; cases t ρ <;> rfl
@[simp] theorem tOr_eq {t u : TF} : tOr t u ρ = orR u (t ρ) := by unfold tOr orR; cases t ρ <;> rfl
@[simp] theorem andR_ok {u : TF} {b : Bool} : andR u (.ok b ρ) = if b = true then u ρ else .ok false ρ := (rfl)
@[simp] theorem orR_ok {u : TF} {b : Bool} : orR u (.ok b ρ) = if b = true then .ok true ρ else u ρ := (rfl)
def ifR {α : Type} (f g : Env → Res α) : Res Bool → Res α
  | .ok b ρ => if b = true then f ρ else g ρ
  | .er e ρ => .er e ρ
  | .bad => .bad
@[simp] theorem eIf_eq {t : TF} {f g : EF} : eIf t f g ρ = ifR f g (t ρ) := by unfold eIf ifR; cases t ρ <;> rfl
@[simp] theorem ifR_ok {α : Type} {f g : Env → Res α} {b : Bool} : ifR f g (.ok b ρ) = if b = true then f ρ else g ρ := (rfl)
def eaR (g : EF) : Res Bool → Res PV
  | .ok b ρ => if b = true then g ρ else .ok (.bl false) ρ
  | .er e ρ => .er e ρ
  | .bad => .bad
def eoR (g : EF) : Res Bool → Res PV
  | .ok b ρ => if b = true then .ok (.bl true) ρ else g ρ
  | .er e ρ => .er e ρ
  | .bad => .bad
@[simp] theorem eaR_ok {g : EF} {b : Bool} : eaR g (.ok b ρ) = if b = true then g ρ else .ok (.bl false) ρ := (rfl)
@[simp] theorem eoR_ok {g : EF} {b : Bool} : eoR g (.ok b ρ) = if b = true then .ok (.bl true) ρ else g ρ := (rfl)
/-! bounds -/
def bdR : Res PV → Res (Option Int)
  | .ok (.int i) ρ => .ok (some i) ρ
  | .ok _ _ => .bad
  | .er e ρ => .er e ρ
  | .bad => .bad
@[simp] theorem goB_none : goB none ρ = .ok none ρ := (rfl)
@[simp] theorem goB_some {f : EF} : goB (some f) ρ = bdR (f ρ) := by
  unfold goB bdR
  cases h : f ρ with
  | ok v ρ1 => simp only [h, Res.bind_ok]; cases v <;> rfl
  | er => simp only [h]; rfl
  | bad => simp only [h]; rfl
@[simp] theorem bdR_ok {i : Int} : bdR (.ok (.int i) ρ) = .ok (some i) ρ := (rfl)
def sl3 (a : Opd) (t : Option PV) (i : Option Int) : Res (Option Int) → Res PV
  | .ok j ρ => .of ((a.get t ρ).bind fun v => sl v i j) ρ
  | .er e ρ => .er e ρ
  | .bad => .bad
def sl2 (a : Opd) (hi : Option EF) (t : Option PV) : Res (Option Int) → Res PV
  | .ok i ρ => sl3 a t i (goB hi ρ)
  | .er e ρ => .er e ρ
  | .bad => .bad
def sl1 (a : Opd) (lo hi : Option EF) : Res (Option PV) → Res PV
  | .ok t ρ => sl2 a hi t (goB lo ρ)
  | .er e ρ => .er e ρ
  | .bad => .bad
@[simp] theorem eSl_eq {a : Opd} {lo hi : Option EF} : eSl a lo hi ρ = sl1 a lo hi (a.go ρ) := by
  unfold eSl sl1
  cases a.go ρ with
  | ok t ρ1 =>
    simp only [Res.bind_ok]; unfold sl2
    cases goB lo ρ1 with
    | ok i ρ2 => simp only [Res.bind_ok]; unfold sl3; cases goB hi ρ2 <;> rfl
    | er => rfl
    | bad => rfl
  | er => rfl
  | bad => rfl
@[simp] theorem sl1_ok {a : Opd} {lo hi : Option EF} {t : Option PV} : sl1 a lo hi (.ok t ρ) = sl2 a hi t (goB lo ρ) := (rfl)
@[simp] theorem sl2_ok {a : Opd} {hi : Option EF} {t : Option PV} {i : Option Int} : sl2 a hi t (.ok i ρ) = sl3 a t i (goB hi ρ) := (rfl)
@[simp] theorem sl3_ok {a : Opd} {t : Option PV} {i j : Option Int} : sl3 a t i (.ok j ρ) = .of ((a.get t ρ).bind fun v => sl v i j) ρ := (rfl)
/-! calls -/
def cl2 (sem : FF) (os : List Opd) (ds : List PV) : Option (List PV × Env) → Res PV
  | some (vs, ρ) => back (sem (vs ++ ds)) .ok fun ws => giveAll os vs ws ρ
  | none => .bad
def cl1 (sem : FF) (os : List Opd) (ds : List PV) : Res (List (Option PV)) → Res PV
  | .ok ts ρ => cl2 sem os ds (takeAll os ts ρ)
  | .er e ρ => .er e ρ
  | .bad => .bad
@[simp] theorem eCall_eq {sem : FF} {os : List Opd} {ds : List PV} : eCall sem os ds ρ = cl1 sem os ds (goAll os ρ) := by
  unfold eCall cl1
  cases goAll os ρ with
  | ok ts ρ1 => simp only [Res.bind_ok]; unfold cl2; cases h : takeAll os ts ρ1 <;> rfl
  | er => rfl
  | bad => rfl
@[simp] theorem cl1_ok {sem : FF} {os : List Opd} {ds : List PV} {ts : List (Option PV)} : cl1 sem os ds (.ok ts ρ) = cl2 sem os ds (takeAll os ts ρ) := (rfl)
@[simp] theorem cl2_some {sem : FF} {os : List Opd} {ds vs : List PV} : cl2 sem os ds (some (vs, ρ)) = back (sem (vs ++ ds)) .ok fun ws => giveAll os vs ws ρ := (rfl)
def ga2 (t : Option PV) : Res (List (Option PV)) → Res (List (Option PV))
  | .ok ts ρ => .ok (t :: ts) ρ
  | .er e ρ => .er e ρ
  | .bad => .bad
def ga1 (os : List Opd) : Res (Option PV) → Res (List (Option PV))
  | .ok t ρ => ga2 t (goAll os ρ)
  | .er e ρ => .er e ρ
  | .bad => .bad
@[simp] theorem goAll_nil : goAll [] ρ = .ok [] ρ := (rfl)
@[simp] theorem goAll_cons {o : Opd} {os : List Opd} : goAll (o :: os) ρ = ga1 os (o.go ρ) := by
  show (o.go ρ).bind _ = _
  unfold ga1
  cases o.go ρ with
  | ok t ρ1 => simp only [Res.bind_ok]; unfold ga2; cases goAll os ρ1 <;> rfl
  | er => rfl
  | bad => rfl
@[simp] theorem ga1_ok {os : List Opd} {t : Option PV} : ga1 os (.ok t ρ) = ga2 t (goAll os ρ) := (rfl)
@[simp] theorem ga2_ok {t : Option PV} {ts : List (Option PV)} : ga2 t (.ok ts ρ) = .ok (t :: ts) ρ := (rfl)
def tk3 (v : PV) : Option (List PV × Env) → Option (List PV × Env)
  | some (vs, ρ) => some (v :: vs, ρ)
  | none => none
def tk2 (os : List Opd) (ts : List (Option PV)) : Option (PV × Env) → Option (List PV × Env)
  | some (v, ρ) => tk3 v (takeAll os ts ρ)
  | none => none
@[simp] theorem takeAll_nil : takeAll [] [] ρ = some ([], ρ) := (rfl)
@[simp] theorem takeAll_cons {o : Opd} {os : List Opd} {t : Option PV} {ts : List (Option PV)} : takeAll (o :: os) (t :: ts) ρ = tk2 os ts (take1 o t ρ) := by
  rw [takeAll]
  unfold tk2
  cases take1 o t ρ with
  | none => rfl
  | some z => obtain ⟨v, ρ1⟩ := z; simp only; unfold tk3; cases takeAll os ts ρ1 <;> rfl
@[simp] theorem tk2_some {os : List Opd} {ts : List (Option PV)} : tk2 os ts (some (v, ρ)) = tk3 v (takeAll os ts ρ) := (rfl)
@[simp] theorem tk3_some {vs : List PV} : tk3 v (some (vs, ρ)) = some (v :: vs, ρ) := (rfl)
def t1N (i : Nat) (ρ : Env) : Option PV → Option (PV × Env)
  | some v => if fro v = true then some (v, ρ) else some (v, ρ.set i none)
  | none => none
@[simp] theorem take1_nm {i : Nat} {t : Option PV} : take1 (.nm i) t ρ = t1N i ρ (slot ρ i) := by
  show (match slot ρ i with | some v => if fro v = true then some (v, ρ) else some (v, ρ.set i none) | none => none) = _
  cases slot ρ i <;> rfl
@[simp] theorem t1N_some {i : Nat} : t1N i ρ (some v) = if fro v = true then some (v, ρ) else some (v, ρ.set i none) := (rfl)
@[simp] theorem take1_ev {f : EF} : take1 (.ev f) (some v) ρ = some (v, ρ) := (rfl)
@[simp] theorem giveAll_nil {vs ws : List PV} : giveAll [] vs ws ρ = ρ := by cases vs <;> cases ws <;> rfl
@[simp] theorem giveAll_cons {o : Opd} {os : List Opd} {v w : PV} {vs ws : List PV} : giveAll (o :: os) (v :: vs) (w :: ws) ρ = give1 o v w (giveAll os vs ws ρ) := (rfl)
@[simp] theorem give1_nm {i : Nat} : give1 (.nm i) v w ρ = if fro v = true then ρ else ρ.set i (some w) := (rfl)
@[simp] theorem give1_ev {f : EF} : give1 (.ev f) v w ρ = ρ := (rfl)
section
variable {α : Type} {k : PV → Env → Res α} {g : List PV → Env} {as : List PV}
@[simp] theorem back_ok : back (.ok v as) k g = k v (g as) := (rfl)
@[simp] theorem back_er : back (.er e as) k g = .er e (g as) := (rfl)
@[simp] theorem back_bad : back .bad k g = .bad := (rfl)
end
/-! statements -/
def andThen (u : SF) : SR → SR
  | .nx ρ => u ρ
  | .rt v ρ => .rt v ρ
  | .bk ρ => .bk ρ
  | .ct ρ => .ct ρ
  | .er e ρ => .er e ρ
  | .bad => .bad
@[simp] theorem sSeq_eq {s u : SF} : sSeq s u ρ = andThen u (s ρ) := by unfold sSeq andThen; cases s ρ <;> rfl
section
variable {u : SF}
@[simp] theorem at_nx : andThen u (.nx ρ) = u ρ := (rfl)
@[simp] theorem at_rt : andThen u (.rt v ρ) = .rt v ρ := (rfl)
@[simp] theorem at_bk : andThen u (.bk ρ) = .bk ρ := (rfl)
@[simp] theorem at_ct : andThen u (.ct ρ) = .ct ρ := (rfl)
@[simp] theorem at_er : andThen u (.er e ρ) = .er e ρ := (rfl)
end
@[simp] theorem sNx_eq : sNx ρ = .nx ρ := (rfl)
def doR : Res PV → SR
  | .ok _ ρ => .nx ρ
  | .er e ρ => .er e ρ
  | .bad => .bad
def retR : Res PV → SR
  | .ok v ρ => .rt v ρ
  | .er e ρ => .er e ρ
  | .bad => .bad
def setR (i : Nat) : Res PV → SR
  | .ok v ρ => .nx (ρ.set i (some v))
  | .er e ρ => .er e ρ
  | .bad => .bad
def siR (a b : SF) : Res Bool → SR
  | .ok c ρ => if c = true then a ρ else b ρ
  | .er e ρ => .er e ρ
  | .bad => .bad
@[simp] theorem sDo_eq {f : EF} : sDo f ρ = doR (f ρ) := by unfold sDo doR; cases f ρ <;> rfl
@[simp] theorem sRet_eq {f : EF} : sRet f ρ = retR (f ρ) := by unfold sRet retR; cases f ρ <;> rfl
@[simp] theorem sSet_eq {i : Nat} {f : EF} : sSet i f ρ = setR i (f ρ) := by unfold sSet setR; cases f ρ <;> rfl
@[simp] theorem sIf_eq {t : TF} {a b : SF} : sIf t a b ρ = siR a b (t ρ) := by unfold sIf siR; cases t ρ <;> rfl
@[simp] theorem doR_ok : doR (.ok v ρ) = .nx ρ := (rfl)
@[simp] theorem retR_ok : retR (.ok v ρ) = .rt v ρ := (rfl)
@[simp] theorem setR_ok {i : Nat} : setR i (.ok v ρ) = .nx (ρ.set i (some v)) := (rfl)
@[simp] theorem siR_ok {a b : SF} {c : Bool} : siR a b (.ok c ρ) = if c = true then a ρ else b ρ := (rfl)
def appS (i : Nat) (v : PV) (ρ : Env) : Option PV → SR
  | some (.lst true xs) => if xs.length < big then .nx (ρ.set i (some (.lst true (xs ++ [v])))) else .bad
  | _ => .bad
def appR (i : Nat) : Res PV → SR
  | .ok v ρ => appS i v ρ (slot ρ i)
  | .er e ρ => .er e ρ
  | .bad => .bad
def isL : Option PV → Bool
  | some (.lst _ _) => true
  | _ => false
theorem sApp_eq0 {i : Nat} {f : EF} (h : isL (slot ρ i) = true) : sApp i f ρ = appR i (f ρ) := by
  unfold sApp
  generalize slot ρ i = o at h
  match o, h with
  | some (.lst w xs), _ =>
    show sOf (f ρ) _ = _
    unfold appR
    cases f ρ with
    | er => rfl
    | bad => rfl
    | ok v ρ1 =>
      show (match slot ρ1 i with | some (.lst true xs) => if xs.length < big then SR.nx (ρ1.set i (some (.lst true (xs ++ [v])))) else .bad | _ => .bad) = appS i v ρ1 (slot ρ1 i)
      generalize slot ρ1 i = o
      cases o with
      | none => rfl
      | some u =>
        cases u with
        | lst w ys => cases w <;> rfl
        | _ => rfl
@[simp] theorem sApp_eq {i : Nat} {f : EF} (h : isL (slot ρ i) = true) : sApp i f ρ = appR i (f ρ) := sApp_eq0 h
@[simp] theorem isL_lst {w : Bool} {xs : List PV} : isL (some (.lst w xs)) = true := (rfl)
@[simp] theorem appR_ok {i : Nat} : appR i (.ok v ρ) = appS i v ρ (slot ρ i) := (rfl)
@[simp] theorem appS_l {i : Nat} {xs : List PV} : appS i v ρ (some (.lst true xs)) = if xs.length < big then .nx (ρ.set i (some (.lst true (xs ++ [v])))) else .bad := (rfl)
def extS (i : Nat) (ρ : Env) : Option PV → PV → SR
  | some (.lst true xs), .lst true ys => if xs.length + ys.length ≤ big then .nx (ρ.set i (some (.lst true (xs ++ ys)))) else .bad
  | _, _ => .bad
def extR (i : Nat) : Res PV → SR
  | .ok v ρ => extS i ρ (slot ρ i) v
  | .er e ρ => .er e ρ
  | .bad => .bad
@[simp] theorem sExt_eq {i : Nat} {f : EF} (h : isL (slot ρ i) = true) : sExt i f ρ = extR i (f ρ) := by
  unfold sExt
  generalize slot ρ i = o at h
  match o, h with
  | some (.lst w xs), _ =>
    show sOf (f ρ) _ = _
    unfold extR
    cases f ρ with
    | er => rfl
    | bad => rfl
    | ok v ρ1 =>
      show (match slot ρ1 i, v with | some (.lst true xs), .lst true ys => if xs.length + ys.length ≤ big then SR.nx (ρ1.set i (some (.lst true (xs ++ ys)))) else .bad | _, _ => .bad) = extS i ρ1 (slot ρ1 i) v
      generalize slot ρ1 i = o
      cases o with
      | none => rfl
      | some u =>
        cases u with
        | lst w ys =>
          cases w with
          | false => rfl
          | true =>
            cases v with
            | lst w2 zs => cases w2 <;> rfl
            | _ => rfl
        | _ => rfl
@[simp] theorem extR_ok {i : Nat} : extR i (.ok v ρ) = extS i ρ (slot ρ i) v := (rfl)
@[simp] theorem extS_l {i : Nat} {xs ys : List PV} : extS i ρ (some (.lst true xs)) (.lst true ys) = if xs.length + ys.length ≤ big then .nx (ρ.set i (some (.lst true (xs ++ ys)))) else .bad := (rfl)
def pl4 (i : Nat) (v : PV) (ρ : Env) : Option PV → PV → SR
  | some (.lst true xs), .int k => match ixN xs.length k with
    | some j => .nx (ρ.set i (some (.lst true (xs.set j v))))
    | none => .bad
  | _, _ => .bad
def pl3 (i : Nat) (v : PV) : Res PV → SR
  | .ok k ρ => pl4 i v ρ (slot ρ i) k
  | .er e ρ => .er e ρ
  | .bad => .bad
def pl2 (i : Nat) (g : EF) (v : PV) (ρ : Env) : Option PV → SR
  | some _ => pl3 i v (g ρ)
  | none => .bad
def pl1 (i : Nat) (g : EF) : Res PV → SR
  | .ok v ρ => pl2 i g v ρ (slot ρ i)
  | .er e ρ => .er e ρ
  | .bad => .bad
@[simp] theorem sPutL_eq {i : Nat} {g f : EF} : sPutL i g f ρ = pl1 i g (f ρ) := by
  unfold sPutL pl1
  cases f ρ with
  | ok v ρ1 =>
    simp only [sOf_ok]
    unfold pl2
    cases slot ρ1 i with
    | none => rfl
    | some x =>
      simp only
      unfold pl3
      cases g ρ1 with
      | ok k ρ2 =>
        simp only [sOf_ok]
        unfold pl4
        generalize slot ρ2 i = o
        cases o with
        | none => rfl
        | some u =>
          cases u with
          | lst w ys =>
            cases w with
            | false => rfl
            | true => cases k <;> rfl
          | _ => rfl
      | er => rfl
      | bad => rfl
  | er => rfl
  | bad => rfl
@[simp] theorem pl1_ok {i : Nat} {g : EF} : pl1 i g (.ok v ρ) = pl2 i g v ρ (slot ρ i) := (rfl)
@[simp] theorem pl2_some {i : Nat} {g : EF} : pl2 i g v ρ (some w) = pl3 i v (g ρ) := (rfl)
@[simp] theorem pl3_ok {i : Nat} : pl3 i v (.ok w ρ) = pl4 i v ρ (slot ρ i) w := (rfl)
@[simp] theorem pl4_l {i : Nat} {xs : List PV} {k : Int} : pl4 i v ρ (some (.lst true xs)) (.int k) = match ixN xs.length k with
    | some j => .nx (ρ.set i (some (.lst true (xs.set j v))))
    | none => .bad := (rfl)
def p2R (i j : Nat) : Res (List PV) → SR
  | .ok [v, w] ρ => .nx ((ρ.set i (some v)).set j (some w))
  | .ok _ _ => .bad
  | .er e ρ => .er e ρ
  | .bad => .bad
@[simp] theorem sPar2_eq {i j : Nat} {g : AF} : sPar2 i j g ρ = p2R i j (g ρ) := by
  unfold sPar2 p2R
  cases g ρ with
  | ok vs ρ1 => simp only [sOf_ok]; split <;> simp_all
  | er => rfl
  | bad => rfl
@[simp] theorem p2R_ok {i j : Nat} : p2R i j (.ok [v, w] ρ) = .nx ((ρ.set i (some v)).set j (some w)) := (rfl)
def p3R (i j k : Nat) : Res (List PV) → SR
  | .ok [v, w, z] ρ => .nx (((ρ.set i (some v)).set j (some w)).set k (some z))
  | .ok _ _ => .bad
  | .er e ρ => .er e ρ
  | .bad => .bad
@[simp] theorem sPar3_eq {i j k : Nat} {g : AF} : sPar3 i j k g ρ = p3R i j k (g ρ) := by
  unfold sPar3 p3R
  cases g ρ with
  | ok vs ρ1 => simp only [sOf_ok]; split <;> simp_all
  | er => rfl
  | bad => rfl
@[simp] theorem p3R_ok {i j k : Nat} {z : PV} : p3R i j k (.ok [v, w, z] ρ) = .nx (((ρ.set i (some v)).set j (some w)).set k (some z)) := (rfl)
def stR (b : BF) : Res PV → SR
  | .ok v ρ => match b v ρ with
    | some ρ2 => .nx ρ2
    | none => .bad
  | .er e ρ => .er e ρ
  | .bad => .bad
@[simp] theorem sSetT_eq {b : BF} {f : EF} : sSetT b f ρ = stR b (f ρ) := by unfold sSetT stR; cases f ρ <;> rfl
@[simp] theorem stR_ok {b : BF} : stR b (.ok v ρ) = match b v ρ with
    | some ρ2 => .nx ρ2
    | none => .bad := (rfl)
@[simp] theorem bN_eq {i : Nat} : bN i v ρ = some (ρ.set i (some v)) := (rfl)
@[simp] theorem bT_eq {bs : List BF} {xs : List PV} : bT bs (.tup xs) ρ = bAll bs xs ρ := (rfl)
@[simp] theorem bAll_nil : bAll [] [] ρ = some ρ := (rfl)
@[simp] theorem bAll_cons {b : BF} {bs : List BF} {vs : List PV} : bAll (b :: bs) (v :: vs) ρ = (b v ρ).bind (bAll bs vs) := by
  rw [bAll]; cases b v ρ <;> rfl
/-! a def -/
def mkR (fx : List Bool) (as : List PV) : SR → FR
  | .nx ρ => fin fx as .non ρ
  | .rt v ρ => fin fx as v ρ
  | .er e ρ => finE fx as e ρ
  | _ => .bad
theorem mk_eq {fx : List Bool} {n : Nat} {s : SF} {as : List PV} (h : as.length = fx.length) : mk fx n s as = mkR fx as (s (as.map some ++ List.replicate (n - fx.length) none)) := by
  unfold mk
  refine (if_pos h).trans ?_
  generalize s (as.map some ++ List.replicate (n - fx.length) none) = r
  cases r <;> rfl
section
variable {fx : List Bool} {as : List PV}
@[simp] theorem mkR_nx : mkR fx as (.nx ρ) = fin fx as .non ρ := (rfl)
@[simp] theorem mkR_rt : mkR fx as (.rt v ρ) = fin fx as v ρ := (rfl)
@[simp] theorem mkR_er : mkR fx as (.er e ρ) = finE fx as e ρ := (rfl)
end
/-! operators on ints -/
section
variable {i j : Int} {x y : Str} {xs ys : List PV} {b c : Bool}
@[simp] theorem add_ii : bAdd (.int i) (.int j) = some (.int (i + j)) := (rfl)
@[simp] theorem sub_ii : bSub (.int i) (.int j) = some (.int (i - j)) := (rfl)
theorem mul_ii (h : mulOk i j = true) : bMul (.int i) (.int j) = some (.int (i * j)) := by
  show (if mulOk i j = true then _ else _) = _
  rw [if_pos h]
theorem div_ii (h : divOk j = true) : bDiv (.int i) (.int j) = some (.int (i / j)) := by
  show (if divOk j = true then _ else _) = _
  rw [if_pos h]
theorem mod_ii (h : 0 < j) : bMod (.int i) (.int j) = some (.int (i % j)) := by
  show (if decide (0 < j) = true then _ else _) = _
  rw [if_pos (by simpa using h)]
theorem pow_ii (h : powOk i j = true) : bPow (.int i) (.int j) = some (.int (i ^ j.toNat)) := by
  show (if powOk i j = true then _ else _) = _
  rw [if_pos h]
@[simp] theorem neg_i : uNeg (.int i) = some (.int (-i)) := (rfl)
@[simp] theorem lt_ii : cLt (.int i) (.int j) = some (decide (i < j)) := (rfl)
@[simp] theorem le_ii : cLe (.int i) (.int j) = some (decide (i ≤ j)) := (rfl)
@[simp] theorem gt_ii : cGt (.int i) (.int j) = some (decide (j < i)) := (rfl)
@[simp] theorem int_i : fInt (.int i) = some (.int i) := (rfl)
@[simp] theorem int_b : fInt (.bl b) = some (.int (b2i b)) := (rfl)
@[simp] theorem abs_i : fAbs (.int i) = some (.int (if i < 0 then -i else i)) := (rfl)
@[simp] theorem max_ii : fMax2 (.int i) (.int j) = some (.int (if j > i then j else i)) := (rfl)
@[simp] theorem min_ii : fMin2 (.int i) (.int j) = some (.int (if j < i then j else i)) := (rfl)
theorem eq_ii : cEq (.int i) (.int j) = some (decide (i = j)) := by
  simp [cEq, dat, eqv]; rw [Bool.eq_iff_iff]; simp
theorem ne_ii : cNe (.int i) (.int j) = some (!decide (i = j)) := by
  simp [cNe, dat, eqv]; rw [Bool.eq_iff_iff]; simp
theorem eq_ss : cEq (.str x) (.str y) = some (decide (x = y)) := by
  simp [cEq, dat, eqv]; rw [Bool.eq_iff_iff]; simp
theorem ne_ss : cNe (.str x) (.str y) = some (!decide (x = y)) := by
  simp [cNe, dat, eqv]; rw [Bool.eq_iff_iff]; simp
@[simp] theorem isN_non : cIsN .non = some true := (rfl)
@[simp] theorem isN_int : cIsN (.int i) = some false := (rfl)
@[simp] theorem noN_non : cNotN .non = some false := (rfl)
@[simp] theorem noN_int : cNotN (.int i) = some true := (rfl)
@[simp] theorem len_lst {w : Bool} : fLen (.lst w xs) = some (.int xs.length) := (rfl)
@[simp] theorem len_tup : fLen (.tup xs) = some (.int xs.length) := (rfl)
@[simp] theorem len_str : fLen (.str x) = some (.int x.length) := (rfl)
end
/-! frozen trees -/
@[simp] theorem fro_int {i : Int} : fro (.int i) = true := (rfl)
@[simp] theorem fro_str {x : Str} : fro (.str x) = true := (rfl)
@[simp] theorem fro_non : fro .non = true := (rfl)
@[simp] theorem fro_bl {b : Bool} : fro (.bl b) = true := (rfl)
@[simp] theorem fro_tup {xs : List PV} : fro (.tup xs) = fros xs := by rw [fro]
@[simp] theorem fro_lt {xs : List PV} : fro (.lst true xs) = false := by rw [fro]; rfl
@[simp] theorem fro_lf {xs : List PV} : fro (.lst false xs) = fros xs := by rw [fro]; rfl
@[simp] theorem fros_nil : fros [] = true := (rfl)
@[simp] theorem fros_cons {x : PV} {xs : List PV} : fros (x :: xs) = (fro x && fros xs) := by rw [fros]
@[simp] theorem frz_int {i : Int} : frz (.int i) = .int i := (rfl)
@[simp] theorem frz_str {x : Str} : frz (.str x) = .str x := (rfl)
@[simp] theorem frz_non : frz .non = .non := (rfl)
@[simp] theorem frz_bl {b : Bool} : frz (.bl b) = .bl b := (rfl)
/-! places -/
@[simp] theorem ix_l {w : Bool} {xs : List PV} {i : Int} : ix (.lst w xs) (.int i) = (atI xs i).bind onlyFro := (rfl)
@[simp] theorem ix_t {xs : List PV} {i : Int} : ix (.tup xs) (.int i) = (atI xs i).bind onlyFro := (rfl)
@[simp] theorem at0 {α : Type} {x : α} {xs : List α} : atI (x :: xs) 0 = some x := by simp [atI, ixN]
@[simp] theorem at1 {α : Type} {x y : α} {xs : List α} : atI (x :: y :: xs) 1 = some y := by
  have : (1 : Int) < xs.length + 1 + 1 := by omega
  simp [atI, ixN, this]
@[simp] theorem at2 {α : Type} {x y z : α} {xs : List α} : atI (x :: y :: z :: xs) 2 = some z := by
  have : (2 : Int) < xs.length + 1 + 1 + 1 := by omega
  simp [atI, ixN, this]
@[simp] theorem ix0 {n : Nat} : ixN (n + 1) 0 = some 0 := by simp [ixN]
@[simp] theorem ix1 {n : Nat} : ixN (n + 2) 1 = some 1 := by
  have : (1 : Int) < n + 2 := by omega
  simp [ixN, this]
@[simp] theorem ix2 {n : Nat} : ixN (n + 3) 2 = some 2 := by
  have : (2 : Int) < n + 3 := by omega
  simp [ixN, this]
theorem onlyFro_t {v : PV} (h : fro v = true) : onlyFro v = some v := by unfold onlyFro; rw [if_pos h]
@[simp] theorem of_int {i : Int} : onlyFro (.int i) = some (.int i) := (rfl)
@[simp] theorem of_str {x : Str} : onlyFro (.str x) = some (.str x) := (rfl)
@[simp] theorem of_non : onlyFro .non = some .non := (rfl)
/-! the end of a def -/
@[simp] theorem outs_nil : outs [] [] ρ = some [] := by cases ρ <;> rfl
@[simp] theorem outs_t {fx : List Bool} {a v : PV} {as : List PV} : outs (true :: fx) (a :: as) (some v :: ρ) = (outs fx as ρ).map (v :: ·) := (rfl)
@[simp] theorem outs_f {fx : List Bool} {a : PV} {as : List PV} {o : Option PV} : outs (false :: fx) (a :: as) (o :: ρ) = if fro a = true then (outs fx as ρ).map (a :: ·) else none := by cases o <;> rfl
def finR (v : PV) : Option (List PV) → FR
  | some as => .ok v as
  | none => .bad
@[simp] theorem fin_eq {fx : List Bool} {as : List PV} : fin fx as v ρ = finR v (outs fx as ρ) := by unfold fin finR; cases outs fx as ρ <;> rfl
@[simp] theorem finR_some {as : List PV} : finR v (some as) = .ok v as := (rfl)
/-! loops by their invariants -/
theorem loop_ok {b : BF} {s : SF} (P : Nat → Env → Prop) : ∀ {xs : List PV} {ρ : Env} {k : Nat}, P k ρ →
    (∀ i x ρ, xs[i]? = some x → P (k + i) ρ → ∃ ρ1, b x ρ = some ρ1 ∧ ((∃ ρ2, s ρ1 = .nx ρ2 ∧ P (k + i + 1) ρ2) ∨ (∃ ρ2, s ρ1 = .ct ρ2 ∧ P (k + i + 1) ρ2))) → ∃ ρ', loop b s xs ρ = .nx ρ' ∧ P (k + xs.length) ρ'
  | [], ρ, k, h, _ => ⟨ρ, rfl, h⟩
  | x :: xs, ρ, k, h, st => by
    obtain ⟨ρ1, e1, h1⟩ := st 0 x ρ rfl h
    have go : ∀ ρ2, P (k + 1) ρ2 → ∃ ρ', loop b s xs ρ2 = .nx ρ' ∧ P (k + (x :: xs).length) ρ' := fun ρ2 h2 => by
      obtain ⟨ρ', e, h'⟩ := loop_ok P (k := k + 1) h2 fun i y ρ hy hp => by
        have := st (i + 1) y ρ hy (by rw [show k + (i + 1) = k + 1 + i by omega]; exact hp)
        rw [show k + (i + 1) + 1 = k + 1 + i + 1 by omega] at this
        exact this
      exact ⟨ρ', e, by rw [List.length_cons, show k + (xs.length + 1) = k + 1 + xs.length by omega]; exact h'⟩
    rcases h1 with ⟨ρ2, e2, h2⟩ | ⟨ρ2, e2, h2⟩
    · obtain ⟨ρ', e, h'⟩ := go ρ2 h2
      exact ⟨ρ', by rw [loop]; simp only [e1, e2]; exact e, h'⟩
    · obtain ⟨ρ', e, h'⟩ := go ρ2 h2
      exact ⟨ρ', by rw [loop]; simp only [e1, e2]; exact e, h'⟩
theorem loop_run {b : BF} {s : SF} {xs : List PV} {ρ : Env} (P : Nat → Env → Prop) (h0 : P 0 ρ)
    (st : ∀ i x ρ, xs[i]? = some x → P i ρ → ∃ ρ1, b x ρ = some ρ1 ∧ ((∃ ρ2, s ρ1 = .nx ρ2 ∧ P (i + 1) ρ2) ∨ (∃ ρ2, s ρ1 = .ct ρ2 ∧ P (i + 1) ρ2))) : ∃ ρ', loop b s xs ρ = .nx ρ' ∧ P xs.length ρ' := by
  obtain ⟨ρ', e, h⟩ := loop_ok P (k := 0) h0 fun i x ρ hx hp => by
    have := st i x ρ hx (by rwa [Nat.zero_add] at hp)
    rwa [Nat.zero_add]
  exact ⟨ρ', e, by rwa [Nat.zero_add] at h⟩
/-- a comprehension without a test -/
theorem comp_ok {own : List Nat} {b : BF} {f : EF} (P : Nat → Env → List PV → Prop) : ∀ {xs : List PV} {ρ : Env} {k : Nat} {ws : List PV}, P k ρ ws →
    (∀ i x ρ ws, xs[i]? = some x → P (k + i) ρ ws → ∃ ρ1 v ρ2, b x ρ = some ρ1 ∧ f ρ1 = .ok v ρ2 ∧ P (k + i + 1) (wipeE own ρ2) (ws ++ [v])) → ∃ vs ρ', compL own b tYes f xs ρ = .ok vs ρ' ∧ P (k + xs.length) ρ' (ws ++ vs)
  | [], ρ, k, ws, h, _ => ⟨[], ρ, rfl, by rw [List.append_nil]; exact h⟩
  | x :: xs, ρ, k, ws, h, st => by
    obtain ⟨ρ1, v, ρ2, e1, e2, h2⟩ := st 0 x ρ ws rfl h
    obtain ⟨vs, ρ', e, h'⟩ := comp_ok P (xs := xs) (k := k + 1) h2 fun i y ρ ws hy hp => by
      have := st (i + 1) y ρ ws hy (by rw [show k + (i + 1) = k + 1 + i by omega]; exact hp)
      rw [show k + (i + 1) + 1 = k + 1 + i + 1 by omega] at this
      exact this
    refine ⟨v :: vs, ρ', ?_, ?_⟩
    · rw [compL]
      simp only [e1, tYes, Res.bindB_ok, if_true, e2, e]
    · rw [List.length_cons, show k + (xs.length + 1) = k + 1 + xs.length by omega]
      rw [List.append_assoc] at h'
      exact h'
theorem comp_run {own : List Nat} {b : BF} {f : EF} {xs : List PV} {ρ : Env} (P : Nat → Env → List PV → Prop) (h0 : P 0 ρ [])
    (st : ∀ i x ρ ws, xs[i]? = some x → P i ρ ws → ∃ ρ1 v ρ2, b x ρ = some ρ1 ∧ f ρ1 = .ok v ρ2 ∧ P (i + 1) (wipeE own ρ2) (ws ++ [v])) : ∃ vs ρ', compL own b tYes f xs ρ = .ok vs ρ' ∧ P xs.length ρ' vs := by
  obtain ⟨vs, ρ', e, h⟩ := comp_ok P (k := 0) (ws := []) h0 fun i x ρ ws hx hp => by
    have := st i x ρ ws hx (by rwa [Nat.zero_add] at hp)
    rwa [Nat.zero_add]
  exact ⟨vs, ρ', e, by rwa [Nat.zero_add, List.nil_append] at h⟩
/-- a comprehension that writes nothing -/
theorem comp_pure {α : Type} {own : List Nat} {b : BF} {t : TF} {f : EF} {ρ : Env} (enc : α → PV) (p : α → Bool) (g : α → PV) : ∀ {l : List α},
    (∀ x ∈ l, ∃ ρ1 ρ2, b (enc x) ρ = some ρ1 ∧ t ρ1 = .ok (p x) ρ2 ∧ (p x = false → wipeE own ρ2 = ρ) ∧ (p x = true → ∃ ρ3, f ρ2 = .ok (g x) ρ3 ∧ wipeE own ρ3 = ρ)) → compL own b t f (l.map enc) ρ = .ok ((l.filter p).map g) ρ
  | [], _ => rfl
  | x :: l, h => by
    have ih := comp_pure enc p g (l := l) fun y hy => h y (List.mem_cons_of_mem _ hy)
    obtain ⟨ρ1, ρ2, e1, e2, h0, h1⟩ := h x List.mem_cons_self
    rw [List.map_cons, compL]
    simp only [e1, e2, Res.bindB_ok]
    cases q : p x with
    | false =>
      rw [if_neg Bool.false_ne_true, h0 q, ih, List.filter_cons, if_neg (by rw [q]; exact Bool.false_ne_true)]
    | true =>
      obtain ⟨ρ3, e3, e4⟩ := h1 q
      rw [if_pos rfl, e3, Res.bindB_ok, e4, ih, Res.bindB_ok, List.filter_cons, if_pos q, List.map_cons]
theorem eComp_run {own : List Nat} {w : IF} {b : BF} {t : TF} {f : EF} {ρ ρ1 ρ2 : Env} {xs vs : List PV} (hw : w ρ = .ok xs ρ1) (h : compL own b t f xs (wipeE own ρ1) = .ok vs ρ2) : eComp own w b t f ρ = .ok (.lst true vs) (restore own ρ1 ρ2) := by
  unfold eComp; rw [hw, Res.bind_ok, h, Res.bindB_ok]
theorem eCompN_fro {own : List Nat} {i : Nat} {b : BF} {t : TF} {f : EF} {ρ ρ2 : Env} {v : PV} {xs vs : List PV} (hs : slot ρ i = some v) (hi : items v = some xs) (hf : fro v = true) (hx : fros xs = true) (h : compL own b t f xs (wipeE own ρ) = .ok vs ρ2) : eCompN own i b t f ρ = .ok (.lst true vs) (restore own ρ ρ2) := by
  unfold eCompN; simp only [hs, hi]; rw [if_pos hx, if_pos hf, h, Res.bindB_ok]
theorem eCompN_own {own : List Nat} {i : Nat} {b : BF} {t : TF} {f : EF} {ρ ρ2 : Env} {v : PV} {xs vs : List PV} (hs : slot ρ i = some v) (hi : items v = some xs) (hf : fro v = false) (hx : fros xs = true) (h : compL own b t f xs (wipeE own (ρ.set i none)) = .ok vs ρ2) : eCompN own i b t f ρ = .ok (.lst true vs) ((restore own ρ ρ2).set i (some v)) := by
  unfold eCompN; simp only [hs, hi]; rw [if_pos hx, if_neg (by rw [hf]; exact Bool.false_ne_true), h, Res.bindB_ok]
theorem sForN_run {i : Nat} {b : BF} {s : SF} {ρ ρ' : Env} {v : PV} {xs : List PV} (hs : slot ρ i = some v) (hi : items v = some xs) (hx : fros xs = true) (h : loop b s xs (ρ.set i none) = .nx ρ') : sForN i b s ρ = .nx (ρ'.set i (some v)) := by
  unfold sForN; simp only [hs, hi]; rw [if_pos hx, h]; rfl
theorem sForN_ret {i : Nat} {b : BF} {s : SF} {ρ ρ' : Env} {v u : PV} {xs : List PV} (hs : slot ρ i = some v) (hi : items v = some xs) (hx : fros xs = true) (h : loop b s xs (ρ.set i none) = .rt u ρ') : sForN i b s ρ = .rt u (ρ'.set i (some v)) := by
  unfold sForN; simp only [hs, hi]; rw [if_pos hx, h]; rfl
theorem sFor_run {w : IF} {b : BF} {s : SF} {ρ ρ1 ρ' : Env} {xs : List PV} (hw : w ρ = .ok xs ρ1) (h : loop b s xs ρ1 = .nx ρ') : sFor w b s ρ = .nx ρ' := by
  unfold sFor; rw [hw, sOf_ok, h]
theorem range1_run {f : EF} {ρ ρ1 : Env} {n : Int} (h : f ρ = .ok (.int n) ρ1) (h0 : 0 ≤ n) (h1 : n ≤ 1000000) : iRange1 f ρ = .ok ((List.range n.toNat).map fun i => .int (i : Nat)) ρ1 := by
  unfold iRange1
  rw [h, Res.bind_ok]
  simp only
  rw [if_pos]
  simp only [Bool.and_eq_true, decide_eq_true_eq]
  refine ⟨⟨by omega, by omega⟩, ?_⟩
  unfold big; omega
theorem iE_run {f : EF} {ρ ρ1 : Env} {v : PV} {xs : List PV} (h : f ρ = .ok v ρ1) (hv : items (frz v) = some xs) : iE f ρ = .ok xs ρ1 := by
  unfold iE; rw [h, Res.bind_ok, hv, Res.of_some]
@[simp] theorem restore_nil {ρ0 : Env} : restore [] ρ0 ρ = ρ := (rfl)
def rs1 (i : Nat) (ρ : Env) : Option PV → Env
  | some v => if fro v = true then ρ.set i (some v) else ρ
  | none => ρ
@[simp] theorem restore_cons {i : Nat} {is : List Nat} {ρ0 : Env} : restore (i :: is) ρ0 ρ = rs1 i (restore is ρ0 ρ) (slot ρ0 i) := by
  rw [restore]; unfold rs1; cases slot ρ0 i <;> rfl
@[simp] theorem rs1_none {i : Nat} : rs1 i ρ none = ρ := (rfl)
@[simp] theorem rs1_some {i : Nat} : rs1 i ρ (some v) = if fro v = true then ρ.set i (some v) else ρ := (rfl)
@[simp] theorem wipe_nil : wipeE [] ρ = ρ := (rfl)
@[simp] theorem wipe_cons {i : Nat} {is : List Nat} : wipeE (i :: is) ρ = (wipeE is ρ).set i none := (rfl)
end Tr.Ev
set_option Elab.async false
set_option linter.all false
set_option maxRecDepth 100000
set_option maxHeartbeats 4000000
/-! Tr.Repr: repr of lists and tuples; texts walked; what the head needs of a law. -/
namespace Tr
open PySem PySem.Spec L2
section
variable {X : Cx} {c : RC} {W : WX} {k : Nat} {pos pos2 p p2 : Pos} {a : Expr} {oa : Opd}
/-! a text walked -/
def iS (f : EF) : IF := fun ρ => (f ρ).bind fun v ρ1 => match v with
  | .str x => .ok (x.cps.toList.map fun c => .str ⟨#[c]⟩) ρ1
  | _ => .bad
theorem src_str {x : Str} (h : sOk x = true) : Src c (Its x) (fun _ _ => True) Emp (x.cps.toList.map fun c => .str ⟨#[c]⟩) where
  len := by
    unfold sOk at h
    simp only [Bool.and_eq_true, decide_eq_true_eq] at h
    rw [List.length_map]
    exact h.1
  go := fun i H F h l => by show i < x.cps.size; simpa using l
  stop := fun H F h => by show x.cps.size ≤ _; simp
  yld := fun i H F y H' z hh g yy e => by
    obtain ⟨rfl, cc, hc, rfl⟩ := yy
    rw [List.getElem?_map, Array.getElem?_toList, hc] at e
    cases e
    refine ⟨Stp.refl, rfl, ?_⟩
    unfold sOk at h ⊢
    simp only [Bool.and_eq_true, decide_eq_true_eq, Array.all_eq_true] at h ⊢
    refine ⟨by show (1 : Nat) ≤ _; decide, ?_⟩
    intro i hi
    have : i = 0 := by simp at hi; omega
    subst this
    obtain ⟨hlt, he⟩ := Array.getElem?_eq_some_iff.mp hc
    have := h.2 _ hlt
    simp only [he] at this
    simpa using this
  step := fun H F A H' F' A' h g s d => trivial
theorem si_str {tg it : Expr} {f : EF} (h : SE X c W it f) : SI X c W tg it (iS f) := by
  refine PI.weak (pi_str h) fun σ H Q q => ?_
  refine tG.bind (rel := relE c) q fun v x ρ1 H1 F1 a b g d r e p => ?_
  cases v with
  | str z =>
    obtain ⟨rfl, hz⟩ := (show x = .str z ∧ sOk z = true from r)
    exact ⟨z, rfl, p.now g Sub.r ⟨_, trivial, src_str hz⟩ e⟩
  | _ => exact p.elim
end
end Tr
namespace Tr
def fxAdd (fx : Nat → Bool) (i : Nat) : Nat → Bool := fun j => decide (j = i) || fx j
theorem fxAdd_le {fx : Nat → Bool} {i : Nat} : ∀ j, fx j = true → fxAdd fx i j = true := fun j h => by unfold fxAdd; rw [h, Bool.or_true]
theorem fxAdd_at {fx : Nat → Bool} {i : Nat} : fxAdd fx i i = true := by unfold fxAdd; simp
end Tr
set_option Elab.async false
set_option linter.all false
set_option maxRecDepth 100000
/-! Tr.End: what the row's head asks of a law. -/
namespace Tr
open PySem PySem.Spec L2
section
variable {K : PySem.W.Frag} {mg : Str → Option Value} {h : Heap} {c : RC}
theorem mkDef {x : Str} {st : Stmt} {ps : List Str} {f : Addr} {oc : Value} {od an : Option Addr} {osl : Array (Option Value)} {kV doc pm cdv ct : Value} (X : K.In h) (G : h.Ns mainGlobals mg)
    (a : PySem.W.nsIn K mainGlobals x = some (some (.ref f))) (l : K.lookup f = some ⟨oc, od, .func (PySem.W.fnOf x x (defArgs st) (defBody st) (defScope st) .none kV doc pm an cdv ct), osl⟩)
    (cd : PySem.W.codeIn K cdv x = true) (k : PySem.W.keepIn K (.ref f) = true)
    (hb : ∀ (kV doc pm : Value) (an : Option Addr) (cdv ct : Value) (us : List Value), us.length = ps.length → bindArgs (PySem.W.fnOf x x (defArgs st) (defBody st) (defScope st) .none kV doc pm an cdv ct) ⟨us, []⟩ = pure (ps.zip us)) :
    ∃ f fd, mg x = some (.ref f) ∧ Fun K x x st f fd ∧ Binds K fd ps [] := by
  have F := fun_mk (st := st) l cd k
  exact ⟨f, _, PySem.W.mg_of X G a, F, F.binds hb⟩
theorem glob_kstr {x z : Str} {t : Tok} (hz : sOk z = true) (X : K.In h) (G : h.Ns mainGlobals mg) (e : PySem.W.nsIn K mainGlobals x = some (some (.str z t))) : GlobOk c mg x (.str z) := glob_str hz ⟨t, PySem.W.mg_of X G e⟩
/-- a def's own head: its object, its promise over every base -/
theorem def_head {P : Program} {w : World} {k : Nat} {x : Str} {st : Stmt} {ps : List Str} {sem : FF} {fa : Addr} (hfa : mg x = some (.ref fa)) (hd : ∃ f fd, mg x = some (.ref f) ∧ Fun K x x st f fd ∧ Binds K fd ps [])
    {y : Str} (hb : ∀ (kV doc pm : Value) (an : Option Addr) (cdv ct : Value) (u : Value), bindArgs (PySem.W.fnOf x x (defArgs st) (defBody st) (defScope st) .none kV doc pm an cdv ct) ⟨[u], []⟩ = pure [(y, u)])
    (F : ∀ base : Heap, Def P w K mg base c k x st ps sem) :
    ∃ fd : FuncData, (∀ (s : Shared) (u : Value), BindsTo s fd ⟨[u], []⟩ [(y, u)]) ∧ ∀ base : Heap, K.In base → base.Ns mainGlobals mg → FnG P w K mg base (L2.CX P w) k fa fd ps (spF c ps.length sem) := by
  obtain ⟨f, fd, h1, h2, h3⟩ := hd
  rw [hfa] at h1; cases h1
  refine ⟨fd, fun s u => ?_, fun base _ _ => ?_⟩
  · obtain ⟨oc, od, kV, doc, pm, an, cdv, ct, osl, rfl, lk, hcd⟩ := h2.ex
    exact .of_eq (hb kV doc pm an cdv ct u)
  · obtain ⟨f', fd', e1, e2, e3, e4⟩ := F base
    rw [hfa] at e1; cases e1
    obtain ⟨oc, od, kV, doc, pm, an, cdv, ct, osl, rfl, lk, hcd⟩ := h2.ex
    obtain ⟨oc', od', kV', doc', pm', an', cdv', ct', osl', rfl, lk', hcd'⟩ := e2.ex
    rw [lk] at lk'
    cases lk'
    exact e4
/-- the script handed in -/
theorem head_sp {sem : FF} {H : Hp} {a : Addr} {ns : List Int} {n : Nat} (hl : ns.length ≤ n) (hn : n ≤ big) (ho : ∃ o, H a = some (.frz o (.lst (ns.map V.int)))) (t : ∃ as, sem [.lst false (ns.map .int)] = .ok (.bl true) as) :
    spF c 1 sem [.ref a] H (fun v _ => v = .bl true) fun _ _ _ => False := by
  obtain ⟨o, ho⟩ := ho
  obtain ⟨as, t⟩ := t
  have rsI : ∀ l : List Int, Rs c H (fun p => p = a) (l.map .int) (l.map V.int) Emp := by
    intro l
    induction l with
    | nil => rfl
    | cons x l ih => exact ⟨_, _, Emp, Emp, rfl, Sub.emp, Sub.emp, Dis.empl, rfl, ih⟩
  refine ⟨rfl, [.lst false (ns.map .int)], fun p => p = a, Emp, ⟨fun p h => h.elim, fun p h => ⟨_, h ▸ ho⟩⟩, ⟨_, [], Emp, Emp, rfl, Sub.emp, Sub.emp, Dis.empl, ⟨a, ns.map V.int, rfl, ⟨⟨.inr ⟨o, ho⟩, rfl⟩, ?_⟩, rsI ns⟩, rfl⟩, ?_⟩
  · rw [List.length_map]; exact Nat.le_trans hl hn
  · rw [t]
    exact fun x H' F' a b s g d r rs => r
end
end Tr
set_option Elab.async false
set_option linter.all false
set_option maxRecDepth 100000
/-! Tr.Srt: sorted(list of ints). -/
namespace Tr
open PySem PySem.Spec L2
end Tr
set_option Elab.async false
set_option linter.all false
set_option maxRecDepth 100000
/-! Tr.Lib: all of the layer; the law's own promise, free of the classes' places. -/
namespace Tr
open PySem PySem.Spec L2
def spLaw (sem : FF) : Sp := fun xs H Q _ => ∃ (a : Addr) (ns : List Int), xs = [.ref a] ∧ (∃ o, H a = some (.frz o (.lst (ns.map V.int)))) ∧ ns.length ≤ big ∧ (∃ as, sem [.lst false (ns.map .int)] = .ok (.bl true) as) ∧ ∀ v H', v = .bl true → Q v H'
theorem spLaw_F {c : RC} {sem : FF} {xs : List V} {H : Hp} {Q : VK} {E : XK} (h : spLaw sem xs H Q E) : spF c 1 sem xs H Q E := by
  obtain ⟨a, ns, rfl, ho, hl, t, q⟩ := h
  obtain ⟨l, vs, F, A, g, r, p⟩ := head_sp (c := c) (Nat.le_refl ns.length) hl ho t
  refine ⟨l, vs, F, A, g, r, ?_⟩
  cases e : sem vs with
  | ok v vs' => rw [e] at p; exact fun x H' F' a b s g' d rv rs => q x H' (p x H' F' a b s g' d rv rs)
  | er z vs' => rw [e] at p; exact fun cls d H' F' b s g' rx rs => (p cls d H' F' b s g' rx rs).elim
  | bad => rw [e] at p; exact p
theorem FnG.law {P : Program} {w : World} {K : PySem.W.Frag} {mg : Str → Option Value} {base : Heap} {CX : CXT} {c : RC} {k : Nat} {f : Addr} {fd : FuncData} {ps : List Str} {sem : FF} (F : FnG P w K mg base CX k f fd ps (spF c 1 sem)) : FnG P w K mg base CX k f fd ps (spLaw sem) :=
  ⟨fun vs H Q E h => F.len vs H Q E (spLaw_F h), fun A gA outer s H args us vs Q E room env bind rel h => F.run A gA outer s H args us vs Q E room env bind rel (spLaw_F h)⟩
end Tr
set_option Elab.async false
set_option linter.all false
set_option maxRecDepth 100000
set_option maxHeartbeats 4000000
/-! Tr.I9: methods of the text; method calls with keywords; a def that calls itself. -/
namespace Tr
open PySem PySem.Spec PyProof.Rows L2
/-- the def m of the own class k, as the text's head leaves it -/
def MTx (K : PySem.W.Frag) (c : RC) (k : Nat) (m qual : Str) (st : Stmt) (ps : List Str) (f : Addr) (fd : FuncData) : Prop :=
  PySem.W.findIn K (.ref (c.cA k)) m = some (some (.ref f)) ∧ PySem.W.isFn K (.ref f) = true ∧ PySem.W.fnIn K f = true ∧ Fun K m qual st f fd ∧ Binds K fd ps []
/-- .. and what it does -/
def MDef (P : Program) (w : World) (K : PySem.W.Frag) (mg : Str → Option Value) (base : Heap) (c : RC) (lv k : Nat) (m qual : Str) (st : Stmt) (ps : List Str) (sem : FF) : Prop :=
  ∃ f fd, MTx K c k m qual st ps f fd ∧ FnG P w K mg base (L2.CX P w) lv f fd ps (spF c ps.length sem)
section
variable {X : Cx} {c : RC} {W : WX} {j lv k : Nat} {m qual : Str} {st : Stmt} {ps : List Str} {sem : FF}
theorem MDef.mok (M : MDef X.prog X.w X.K X.mg X.base c lv k m qual st ps sem) (cl : Cls X.K (c.cA k)) {fs : List Str} (hF : c.cF k = fs) (no : fs.contains m = false) (hr : lv ≤ j) : MOk X c j m ps.length [] k sem := by
  obtain ⟨f, fd, ⟨h1, h2, h3, h4, h5⟩, h6⟩ := M
  exact ⟨lv, f, fd, ps, [], [], cl, ⟨h1, h2, h4.kp⟩, h6, hr, h5, .nil, fun _ _ => rfl, by rw [hF]; simpa using no⟩
theorem MDef.eq {tg : List Nat} (M : MDef X.prog X.w X.K X.mg X.base c lv k "__eq__" qual st ps sem) (hl : ps.length = 2) (nf : ∀ k', tg.contains k' = true → PySem.W.notFirst X.K (c.cA k) (.ref (c.cA k')) = true) (hr : lv ≤ j) : EqOk X c j tg k sem := by
  obtain ⟨f, fd, ⟨h1, h2, h3, h4, h5⟩, h6⟩ := M
  rw [hl] at h6
  exact ⟨lv, f, fd, ps, h1, h2, h6, hr, h5, nf⟩
end
section
variable {P : Program} {w : World} {K : PySem.W.Frag} {mg : Str → Option Value} {base : Heap} {c : RC}
/-- a def that may do nothing here -/
theorem fng_bad {lv n : Nat} {f : Addr} {fd : FuncData} {ps : List Str} : FnG P w K mg base (L2.CX P w) lv f fd ps (spF c n fun _ => .bad) :=
  ⟨fun vs H Q E h => (by obtain ⟨_, _, _, _, _, _, p⟩ := h; exact p.elim), fun A gA outer s H args us vs Q E room env bind rel h => (by obtain ⟨_, _, _, _, _, _, p⟩ := h; exact p.elim)⟩
theorem mkMeth {c : RC} {h : Heap} {k : Nat} {m qual : Str} {st : Stmt} {ps : List Str} {f : Addr} {oc : Value} {od an : Option Addr} {osl : Array (Option Value)} {kV doc pm cdv ct : Value}
    (a : PySem.W.findIn K (.ref (c.cA k)) m = some (some (.ref f))) (fn : PySem.W.isFn K (.ref f) = true) (fi : PySem.W.fnIn K f = true) (l : K.lookup f = some ⟨oc, od, .func (PySem.W.fnOf m qual (defArgs st) (defBody st) (defScope st) .none kV doc pm an cdv ct), osl⟩)
    (cd : PySem.W.codeIn K cdv qual = true) (kp : PySem.W.keepIn K (.ref f) = true)
    (hb : ∀ (kV doc pm : Value) (an : Option Addr) (cdv ct : Value) (us : List Value), us.length = ps.length → bindArgs (PySem.W.fnOf m qual (defArgs st) (defBody st) (defScope st) .none kV doc pm an cdv ct) ⟨us, []⟩ = pure (ps.zip us)) :
    ∃ f fd, MTx K c k m qual st ps f fd := by
  have F := fun_mk (st := st) l cd kp
  exact ⟨f, _, a, fn, fi, F, F.binds hb⟩
end
end Tr
set_option Elab.async false
set_option linter.all false
set_option maxRecDepth 100000
set_option maxHeartbeats 4000000
/-! Tr.I10: short forms for the printer. -/
namespace Tr
open PySem PySem.Spec PyProof.Rows L2
section
variable {X : Cx} {c : RC} {W : WX} {tb tc : Tb} {f g : Str} {o : Expr} {oo : Opd} {i m : Nat} {x y : Str} {pos apos p p1 p2 p3 p4 : Pos}
variable (D : Ds X c)
include D
theorem e_eqF2 (T : FdOk X.K c tb f) (T2 : FdOk X.K c tc g) (hv : PE X (.Name x p) (tVar i)) (hz : PE X (.Name y p3) (tVar m)) (hb : attributeBase (.Name x p) f X.env (eval (.Name x p) X.env) = eval (.Name x p) X.env := by rfl) (hb2 : attributeBase (.Name y p3) g X.env (eval (.Name y p3) X.env) = eval (.Name y p3) X.env := by rfl) :
    SE X c W (.Compare (.Attribute (.Name x p) f p1) [.Eq] [.Attribute (.Name y p3) g p4] pos) (eT (tPV2 (pj2 tb tc cEq) (.nm i) (.nm m))) := e_cmp2 T T2 (op_eqD D.un) (by rw [D.K]; exact k_eq) hv hz (nomark _) hb hb2
end
end Tr
namespace Tr
theorem tgs_nil {Pr : Nat → Prop} : ∀ k', ([] : List Nat).contains k' = true → Pr k' := fun _ h => by cases h
theorem tgs_cons {Pr : Nat → Prop} {k : Nat} {tg : List Nat} (h : Pr k) (r : ∀ k', tg.contains k' = true → Pr k') : ∀ k', (k :: tg).contains k' = true → Pr k' := fun k' e => by
  rw [List.contains_cons, Bool.or_eq_true] at e
  rcases e with e | e
  · rw [show k' = k by simpa using e]; exact h
  · exact r k' e
end Tr
namespace Tr
open PySem
theorem nf_same (K : PySem.W.Frag) (C : Addr) : PySem.W.notFirst K C (.ref C) = true := by unfold PySem.W.notFirst; simp
theorem kit_same (K : PySem.W.Frag) (C : Addr) : PySem.W.kitOne K (.ref C) (.ref C) = some true := by unfold PySem.W.kitOne; simp
end Tr
set_option Elab.async false
set_option linter.all false
set_option maxRecDepth 100000
set_option maxHeartbeats 4000000
/-! Tr.I11: own x[y] = e that may raise; is of truths. -/
namespace Tr
open PySem PySem.Spec PyProof.Rows L2
end Tr
set_option Elab.async false
set_option linter.all false
set_option maxRecDepth 100000
set_option maxHeartbeats 4000000
/-! Tr.I12: list(text). -/
namespace Tr
open PySem PySem.Spec PyProof.Rows L2
def fListS : PV → Option PV
  | .str z => some (.lst true (z.cps.toList.map fun c => .str ⟨#[c]⟩))
  | v => fList v
theorem sOk_one {d : Nat} (h : d < 0x110000) : sOk ⟨#[d]⟩ = true := by
  unfold sOk
  rw [Bool.and_eq_true, decide_eq_true_eq]
  refine ⟨(by decide : 1 ≤ big), ?_⟩
  simpa using h
theorem sOk_mem {z : Str} (h : sOk z = true) : ∀ d ∈ z.cps.toList, d < 0x110000 := fun d hd => by
  unfold sOk at h
  rw [Bool.and_eq_true, ← Array.all_toList, List.all_eq_true] at h
  simpa using h.2 d hd
theorem vals_signs {acc : List Value} {cs : List Nat} (hl : acc.length = cs.length) (h : ∀ (j : Nat) (v : Value), acc[j]? = some v → ∃ c u, cs[j]? = some c ∧ v = .str ⟨#[c]⟩ u) : Vals (cs.map fun c => V.str ⟨#[c]⟩) acc := by
  induction cs generalizing acc with
  | nil => cases acc with
    | nil => exact .nil
    | cons => simp at hl
  | cons c cs ih => cases acc with
    | nil => simp at hl
    | cons v acc =>
      obtain ⟨d, u, e1, e2⟩ := h 0 v rfl
      simp at e1
      subst e1
      exact .cons ⟨u, e2⟩ (ih (by simpa using hl) fun j w e => by simpa using h (j + 1) w (by simpa using e))
section
variable {X : Cx} {c : RC} {W : WX} {a : Expr} {oa : Opd} {pos p : Pos}
def rListA (K : PySem.W.Frag) : List V → Hp → VK → Prop := fun xs H Q => (∃ z : Str, xs = [.str z] ∧ z.cps.size ≤ sizeLine ∧ ∀ l, H l = none → Q (.ref l) (upd H l (.lst (z.cps.toList.map fun c => V.str ⟨#[c]⟩)))) ∨
  ∃ p ys, xs = [.ref p] ∧ (SqL K H p ys ∨ SqT K H p ys) ∧ ∀ l, H l = none → Q (.ref l) (upd H l (.lst ys))
theorem cr_listS (hc : X.calm = true) : CallR X (.type "list") (fun xs H Q => ∃ z : Str, xs = [.str z] ∧ z.cps.size ≤ sizeLine ∧ ∀ l, H l = none → Q (.ref l) (upd H l (.lst (z.cps.toList.map fun c => V.str ⟨#[c]⟩)))) := by
  intro pins s σ H xs us Q I r h
  obtain ⟨z, rfl, hz, q⟩ := h
  obtain ⟨u, rfl, t, rfl⟩ := vals1 r
  refine call_list_str (I.ok.hd hc) z t (fun h' tk acc c' kp e hi => ?_) hz
  have hv : Vals (z.cps.toList.map fun c => V.str ⟨#[c]⟩) acc.toList := vals_signs (by simpa using hi.1) fun j v hj => by
    obtain ⟨c, u, e1, e2⟩ := hi.2 j v (by simpa using hj)
    exact ⟨c, u, by simpa using e1, e2⟩
  refine ⟨.ref s.heap.objs.size, upd H s.heap.objs.size (.lst (z.cps.toList.map fun c => V.str ⟨#[c]⟩)), I.laid (t' := tk) kp (Nat.le_refl _) ?_, rfl, q _ (I.hok.fresh (Nat.le_refl _))⟩
  exact ⟨by simpa using hz, acc.toList, c', hv, by simpa using e⟩
theorem k_listA : K1 c (fun v => rListA c.K [v]) fListS := by
  intro v z x H F Q A g r k q
  cases v with
  | str y =>
    obtain ⟨rfl, hs⟩ := r
    cases k
    have l : y.cps.size ≤ sizeLine := by
      unfold sOk at hs
      rw [Bool.and_eq_true, decide_eq_true_eq] at hs
      exact hs.1
    have rs : ∀ cs : List Nat, (∀ d ∈ cs, d < 0x110000) → Rs c H F (cs.map fun d => PV.str ⟨#[d]⟩) (cs.map fun d => V.str ⟨#[d]⟩) Emp := by
      intro cs
      induction cs with
      | nil => intro _; rfl
      | cons d cs ih => exact fun hd => ⟨_, _, Emp, Emp, rfl, Sub.emp, Sub.emp, Dis.empl, ⟨rfl, sOk_one (hd d List.mem_cons_self)⟩, ih fun e he => hd e (List.mem_cons_of_mem _ he)⟩
    exact .inl ⟨y, rfl, l, fun pp hp => q.lst g (rs _ (sOk_mem hs)) (by rw [List.length_map, Array.length_toList]; exact l) hp⟩
  | _ => exact .inr (k_list (c := c) _ z x H F Q A g r k q)
theorem e_listS {k : Nat} (D : Dk X c W k) (hm : X.mg "list" = none) (hg : Gl X "list") (ha : SO X c W a oa) (st : starEach [a] X.env = (false, eval a X.env) :: starEach [] X.env := by rfl) (he : (backTo pos (starEach [] X.env)).any (·.1) = false := by rfl) : SE X c W (.Call (.Name "list" p) [a] [] pos) (eP1 fListS oa) :=
  se_ty1 (r := rListA X.K) ((cr_listS D.calm).or call_list_of) (by rw [D.K]; exact k_listA) hg hm (by decide +kernel) ha (by decide) (by decide) st he
end
end Tr
set_option Elab.async false
set_option linter.all false
set_option maxRecDepth 100000
set_option maxHeartbeats 4000000
/-! Tr.I13: == of data, two empty dicts too. -/
namespace Tr
open PySem PySem.Spec PyProof.Rows L2
end Tr
set_option Elab.async false
set_option linter.all false
set_option maxRecDepth 100000
set_option maxHeartbeats 4000000
/-! Tr.D: defs and classes with default arguments; classes called with keywords. -/
namespace Tr
open PySem PySem.Spec PyProof.Rows L2
section
variable {P : Program} {w : World} {K : PySem.W.Frag} {mg : Str → Option Value} {base : Heap} {c : RC}
/-- a def of the text, whatever its defaults are -/
theorem okGD {x qual : Str} {st : Stmt} {f : Addr} {fd : FuncData} {N ps : List Str} {k : Nat} {sp : Sp} {dvs : List V} {kws : List (Str × V)} (F : FunD K x qual (defArgs st) (defBody st) (defScope st) dvs kws f fd) (S : FnScope N ps (defScope st)) (len : ∀ vs H Q E, sp vs H Q E → vs.length = ps.length)
    (hb : ∀ (cdv : Value) (A : Around) (outer : List PySem.Env) (s : Shared) (H : Hp) (vs : List V) (Q : VK) (E : XK), A.guards = some [] → Room k (A.deeper (envOfC qual (defScope st) s.heap.objs.size f cdv)) → sp vs H Q E →
      ∃ t, PSs (cxOf (L2.CX P w) P w K mg base N qual (defScope st) f cdv A outer s H E) (defBody st) t ∧ t { nx := fun _ H' => Q .non H', rt := Q } (L2.start N vs) H) : FnG P w K mg base (L2.CX P w) (k + 1) f fd ps sp := by
  obtain ⟨oc, od, dV, kV, doc, pm, an, cdv, ct, osl, rfl, lk, hcd, _, _⟩ := F.ex
  refine ⟨len, fun A gA outer s H args us vs Q E room env bind rel want => ?_⟩
  have n := len _ _ _ _ want
  have inK : K.In s.heap := env.mod.kin.keeps fun b o e => (env.bs b o e).1
  have nolim : s.heap.NoLimit := env.mod.nolimit.keeps fun b o e => (env.bs b o e).1
  have kinds : ∀ y ∈ ps.zip us, (defScope st).names.lookup y.1 = some .local ∨ ((defScope st).names.lookup y.1 = some .cell ∧ ((cellsFrom (s.heap.objs.size + 1) (defScope st).names []).lookup y.1).isSome = true) := fun y hy => (S.par y.1 (List.of_mem_zip (a := y.1) (b := y.2) hy).1).imp id fun q => ⟨q, PySem.W.cellsFrom_some _ _ _ (.inl q)⟩
  refine codeAny_call_function room.depth (inK _ _ lk) rfl S.co S.gen rfl (PySem.W.codeRec_of inK hcd) (bind _ _ _ _ (wpAny_newFunctionEnv_cells S.kind kinds fun env' e s1 x => ?_))
  subst e
  obtain ⟨t, ht, q⟩ := hb cdv A outer s H vs Q E gA (room.deeper _) want
  refine ⟨nolim.keeps x.toInCall.keep, codeAny_func (wpAny_mono (ht.run [] s1 (L2.start N vs) H _ (inv_start S room.hd env n rel x) q) (fun fl s' a => ?_) fun e s' a => a)⟩
  cases fl with
  | ret u => obtain ⟨v, σ', H', J, rv, q⟩ := a; exact ⟨v, H', J.os, J.bare, J.base, J.hok, rv, q⟩
  | next => obtain ⟨σ', H', J, q⟩ := a; exact ⟨V.non, H', J.os, J.bare, J.base, J.hok, rfl, q⟩
  | brk => obtain ⟨_, _, _, q⟩ := a; exact False.elim q
  | cont => obtain ⟨_, _, _, q⟩ := a; exact False.elim q
/-- THE RULE for a def with defaults -/
theorem ok_defD {x qual : Str} {st : Stmt} {f : Addr} {fd : FuncData} {N ps : List Str} {k : Nat} {sem : SF} {dvs : List V} {kws : List (Str × V)} (fx : List Bool) (hK : K = c.K) (Fn : FunD K x qual (defArgs st) (defBody st) (defScope st) dvs kws f fd) (S : FnScope N ps (defScope st)) (hl : fx.length = ps.length) (hN : ps.length ≤ N.length)
    (body : ∀ (X : Cx) (W : WX), (∃ cdv A outer s H E, X = cxOf (L2.CX P w) P w K mg base N qual (defScope st) f cdv A outer s H E) → Dk X c W k → SSs c W (fxOf fx) X (defBody st) sem) :
    FnG P w K mg base (L2.CX P w) (k + 1) f fd ps (spF c ps.length (mk fx N.length sem)) := by
  refine okGD Fn S (fun vs H Q E h => h.1) fun cdv A outer s H vs Q E gA hr h => ?_
  obtain ⟨l, as, F, A0, g, r, p⟩ := h
  refine ⟨_, body _ (fun cls d _ H' => E cls d H') ⟨cdv, A, outer, s, H, E, rfl⟩ ⟨hK, hr, rfl, S.nd, takes_of rfl rfl rfl rfl, passes_of rfl, gA⟩, ?_⟩
  have las : as.length = vs.length := by rw [r.len]
  have est : L2.start N vs = vs.map some ++ List.replicate (N.length - fx.length) none := by
    unfold L2.start
    rw [l, hl]
  refine ⟨as.map some ++ List.replicate (N.length - fx.length) none, F, A0, g, by rw [est]; exact RE.start _ r, ?_⟩
  unfold mk at p
  rw [if_pos (by rw [las, l, hl])] at p
  have up : ∀ {H' : Hp} {F' b : AS}, Stp H F A0 H' F' b → ∀ (v : PV) (x : V), R c H F v x Emp → R c H' F' v x Emp := fun t v x q => q.step g t Dis.empl
  have kp : ∀ {σ' : L2.St}, Keep (fxOf fx) (L2.start N vs) σ' → ∀ i, fx.getD i false = true → σ'[i]? = (vs.map some)[i]? := fun {σ'} q i z => by
    rw [q.at_ i z, est]
    have hi : i < fx.length := by
      rcases Nat.lt_or_ge i fx.length with h | h
      · exact h
      · rw [List.getD_eq_getElem?_getD, List.getElem?_eq_none h] at z; cases z
    rw [List.getElem?_append_left (by rw [List.length_map, l, ← hl]; exact hi)]
  have lv : vs.length = fx.length := by rw [l, hl]
  cases q : sem (as.map some ++ List.replicate (N.length - fx.length) none) with
  | nx ρ' =>
    simp only [q] at p
    intro σ' H' F' b t g1 e1 kk
    unfold fin at p
    cases o : outs fx as ρ' with
    | none => simp only [o] at p
    | some ws =>
      simp only [o] at p
      exact p .non H' F' Emp b (t.drop (Sub.uni Sub.emp (Sub.refl _))) (g1.sub (Sub.uni Sub.emp (Sub.refl _))) Dis.empl rfl (outs_ok o e1 (kp kk) r lv (up t))
  | rt v ρ' =>
    simp only [q] at p
    intro x σ' H' F' a b t g1 d rv e1 kk
    unfold fin at p
    cases o : outs fx as ρ' with
    | none => simp only [o] at p
    | some ws =>
      simp only [o] at p
      exact p x H' F' a b t g1 d rv (outs_ok o e1 (kp kk) r lv (up t))
  | er x ρ' =>
    simp only [q] at p
    intro cls d σ' H' F' b t g1 rx e1 kk
    unfold finE at p
    cases o : outs fx as ρ' with
    | none => simp only [o] at p
    | some ws =>
      simp only [o] at p
      exact p cls d H' F' b t g1 rx (outs_ok o e1 (kp kk) r lv (up t))
  | bk ρ' => simp only [q] at p
  | ct ρ' => simp only [q] at p
  | bad => simp only [q] at p
end
/-! ### defaults -/
/-- what stands as defaults: trees of no footprint -/
structure DfOk (c : RC) (dps : List PV) (dvs : List V) : Prop where
  r : ∀ H F, Rs c H F dps dvs Emp
theorem dfok_nil {c : RC} : DfOk c [] [] := ⟨fun _ _ => rfl⟩
theorem dfok_cons {c : RC} {d : PV} {v : V} {dps : List PV} {dvs : List V} (h : ∀ H F, R c H F d v Emp) (r : DfOk c dps dvs) : DfOk c (d :: dps) (v :: dvs) := ⟨fun H F => ⟨v, dvs, Emp, Emp, rfl, Sub.refl _, Sub.refl _, Dis.empl, h H F, r.r H F⟩⟩
theorem df_str {c : RC} {x : Str} (h : sOk x = true) : ∀ H F, R c H F (.str x) (.str x) Emp := fun _ _ => ⟨rfl, h⟩
theorem df_tup0 {c : RC} {a : Addr} {n : Nat} {sl : Array (Option Value)} (l : c.K.lookup a = some ⟨.type "tuple", none, .seq #[] n, sl⟩) : ∀ H F, R c H F (.tup []) (.ref a) Emp :=
  fun H F => ⟨a, [], rfl, ⟨.inr ⟨_, #[], n, l, ⟨rfl, rfl⟩, rfl, Nat.zero_le _, .nil⟩, Nat.zero_le _⟩, rfl⟩
theorem Rs.gP {c : RC} {H : Hp} {F : AS} {xs : List PV} {vs : List V} (r : Rs c H F xs vs Emp) : ∀ J : List Nat, Rs c H F (gP J xs) (gP J vs) Emp
  | [] => rfl
  | i :: J => by
    have l := r.len
    by_cases h : i < xs.length
    · have h2 : i < vs.length := by omega
      obtain ⟨v, b, e1, s1, rv⟩ := r.get (List.getElem?_eq_getElem h)
      rw [List.getElem?_eq_getElem h2] at e1; cases e1
      have a1 : Tr.gP (i :: J) xs = xs[i] :: Tr.gP J xs := by unfold Tr.gP; simp only [List.filterMap_cons, List.getElem?_eq_getElem h]
      have a2 : Tr.gP (i :: J) vs = vs[i] :: Tr.gP J vs := by unfold Tr.gP; simp only [List.filterMap_cons, List.getElem?_eq_getElem h2]
      rw [a1, a2]
      exact ⟨_, _, Emp, Emp, rfl, Sub.refl _, Sub.refl _, Dis.empl, R.mono rv s1, Rs.gP r J⟩
    · have a1 : Tr.gP (i :: J) xs = Tr.gP J xs := by unfold Tr.gP; simp only [List.filterMap_cons, List.getElem?_eq_none (Nat.le_of_not_lt h)]
      have a2 : Tr.gP (i :: J) vs = Tr.gP J vs := by unfold Tr.gP; simp only [List.filterMap_cons, List.getElem?_eq_none (show vs.length ≤ i by omega)]
      rw [a1, a2]
      exact Rs.gP r J
/-- a method with defaults -/
def MTxD (K : PySem.W.Frag) (c : RC) (k : Nat) (m qual : Str) (st : Stmt) (dps : List PV) (f : Addr) (fd : FuncData) : Prop :=
  PySem.W.findIn K (.ref (c.cA k)) m = some (some (.ref f)) ∧ PySem.W.isFn K (.ref f) = true ∧ PySem.W.fnIn K f = true ∧ ∃ dvs, FunD K m qual (defArgs st) (defBody st) (defScope st) dvs [] f fd ∧ dvs ≠ [] ∧ DfOk c dps dvs
def MDefD (P : Program) (w : World) (K : PySem.W.Frag) (mg : Str → Option Value) (base : Heap) (c : RC) (lv k : Nat) (m qual : Str) (st : Stmt) (ps : List Str) (dps : List PV) (sem : FF) : Prop :=
  ∃ f fd, MTxD K c k m qual st dps f fd ∧ FnG P w K mg base (L2.CX P w) lv f fd ps (spF c ps.length sem)
/-- how n values, keywords named ks and the defaults at J bind -/
def KwX (m qual : Str) (st : Stmt) (ps : List Str) (nd n : Nat) (ks : List Str) (J pp : List Nat) : Prop := ∀ (T : Addr) (kV doc pm : Value) (an : Option Addr) (cdv ct : Value) (us ws its : List Value), us.length = n → ws.length = ks.length → its.length = nd →
  ∃ k, bindArgs (PySem.W.fnOf m qual (defArgs st) (defBody st) (defScope st) (.ref T) kV doc pm an cdv ct) ⟨us, ks.zip ws⟩ = seqItems? (.ref T) >>= k ∧ k (some its.toArray) = pure (ps.zip (gP pp ((us ++ ws) ++ gP J its)))
theorem bindsX {K : PySem.W.Frag} {m qual : Str} {st : Stmt} {ps ks : List Str} {dvs : List V} {f : Addr} {fd : FuncData} {n : Nat} {J pp : List Nat} (F : FunD K m qual (defArgs st) (defBody st) (defScope st) dvs [] f fd) (hd : dvs ≠ []) {nd : Nat} (hn : dvs.length = nd) (hb : KwX m qual st ps nd n ks J pp) :
    ∃ its, Vals dvs its ∧ ∀ (s : Shared) (us ws : List Value), K.In s.heap → us.length = n → ws.length = ks.length → BindsTo s fd ⟨us, ks.zip ws⟩ (ps.zip (gP pp ((us ++ ws) ++ gP J its))) := by
  obtain ⟨oc, od, dV, kV, doc, pm, an, cdv, ct, osl, rfl, lk, hcd, hD, hK⟩ := F.ex
  rcases hD with ⟨e, _⟩ | ⟨_, T, o, its, z, rfl, lT, oT, rT⟩
  · exact absurd e hd
  · refine ⟨its, rT, fun s us ws X l1 l2 => ?_⟩
    obtain ⟨k, e1, e2⟩ := hb T kV doc pm an cdv ct us ws its l1 l2 (by rw [← hn, rT.length])
    refine BindsTo.of_looks fun M => ?_
    rw [e1]
    exact looks_items X lT oT (.of_pure e2)
section
variable {X : Cx} {c : RC} {W : WX} {j lv k n nd : Nat} {x m : Str} {p pos : Pos} {e o : Expr} {es : List Expr} {os os2 : List Opd} {oo : Opd} {sem : FF} {qual : Str} {st : Stmt} {ps ks : List Str} {kws : List Keyword} {pp qq J : List Nat} {dps : List PV}
/-! ### f(e, .., k = v, ..) -/
/-! ### C(e, .., k = v, ..) -/
theorem run_makeX {fI C : Addr} {fd : FuncData} {sp : Sp} {kk : Nat} {E : XK} {pins : List (Addr × Obj)} {σ : L2.St} {H : Hp} {s : Shared} {Q : VK} {us : List Value} {kw : List (Str × Value)} {g : Value → List Value} {gV : V → List V} (M : Mk X.K C fI) (F : FnG X.prog X.w X.K X.mg X.base (L2.CX X.prog X.w) kk fI fd ps sp) (gA : X.A.guards = some []) (hr : Room (kk + 1) X.A)
    (hb : ∀ (s : Shared) (a : Addr), X.K.In s.heap → BindsTo s fd ⟨.ref a :: us, kw⟩ (ps.zip (g (.ref a))))
    (hx : ∀ (pins : List (Addr × Obj)) (H : Hp) (s : Shared) (e : Value) (s' : Shared), L2.Inv X pins σ H s → L2.CX X.prog X.w X.stack H s E e s' → X.xe e s') (I : L2.Inv X pins σ H s) (r : ∀ a, Vals (gV (.ref a)) (g (.ref a)))
    (h : ∀ x dx, H x = none → H dx = none → dx ≠ x → sp (gV (.ref x)) (upd (upd H dx (.own x)) x (.ins C dx [])) (fun v H2 => v = .non ∧ Q (.ref x) H2) E) :
    wpAny (model X.prog X.w) X.A (call (.ref C) us kw) (EP X pins σ Q) X.xe s := by
  have hq := h (s.heap.objs.size + 1) s.heap.objs.size (I.hok.fresh (Nat.le_succ _)) (I.hok.fresh (Nat.le_refl _)) (Nat.ne_of_lt (Nat.lt_succ_self _))
  have J := Inv.made (C := C) I
  refine wpAny_call (make_map (f := fI) I.kIn M.makes M.init (beq_iff_eq.mp M.fn) (codeAny_mono (F.run _ (make_guards gA) X.stack _ _ ⟨Value.ref (s.heap.objs.size + 1) :: us, kw⟩ (g (.ref (s.heap.objs.size + 1))) _ _ E (hr.make C us kw) (J.env0.make C us kw)
    (hb _ _ J.kIn) (r _) hq) fun y s' z => ?_))
  cases y with
  | error er => exact hx pins _ _ er s' J z
  | ok fl =>
    cases fl with
    | ret u =>
      obtain ⟨v, H', I3, rv, ev, q3⟩ := J.after z
      subst ev
      exact ⟨rv, ⟨V.ref (s.heap.objs.size + 1), H', I3, rfl, q3⟩⟩
    | next => exact z.elim
    | brk => exact z.elim
    | cont => exact z.elim
theorem makeX_q {dvs : List V} (hd : DfOk c dps dvs) (hp : PermOk n pp qq) (hn : os.length + os2.length + (gP J dps).length + 1 = n) {σ : L2.St} {H : Hp} {Q : VK} (q : tEx c W (eMake k (permF pp qq sem) (os ++ os2) (gP J dps)) σ H Q) :
    tOs c W os σ H fun xs H1 => xs.length = os.length ∧ tOs c W os2 σ H1 fun ys H2 => ys.length = os2.length ∧ ∀ x dx, H2 x = none → H2 dx = none → dx ≠ x →
      spF c n sem (gP pp (((.ref x :: xs) ++ ys) ++ gP J dvs)) (upd (upd H2 dx (.own x)) x (.ins (c.cA k) dx [])) (fun v H3 => v = .non ∧ Q (.ref x) H3) (fun cls d H' => W cls d σ H') := by
  have q1 := make_q (n := n) (dvs := gP J dvs) (fun H F => (hd.r H F).gP J) (by rw [List.length_append]; exact hn) q
  refine (tOs.two (K := fun vs H1 => ∀ x dx, H1 x = none → H1 dx = none → dx ≠ x → _) q1).imp fun xs H1 h => ⟨h.1, (tOs.len h.2).imp fun ys H2 h2 => ⟨h2.1, fun x dx a b d => ?_⟩⟩
  have := spF_perm hp (h2.2 x dx a b d)
  simpa using this
theorem e_makeX (D : Dk X c W j) (M : MDefD X.prog X.w X.K X.mg X.base c lv k "__init__" qual st ps dps sem) (mk : PySem.W.makesIn X.K (c.cA k) = true) (kp : PySem.W.keepIn X.K (.ref (c.cA k)) = true) (hr : lv + 1 ≤ j) (hg : Gl X x) (hm : X.mg x = some (.ref (c.cA k)))
    (hb : KwX "__init__" qual st ps nd (os.length + 1) ks J pp) (hnd : dps.length = nd) (hks : ks.length = os2.length) (hp : PermOk ps.length pp qq) (hn : os.length + os2.length + (gP J dps).length + 1 = ps.length)
    (ha : SOs X c W (e :: es) os) (hkw : SK X c W kws os2) (hall : (backToKw pos (keywordEach kws X.env)).all (·.1.isSome) = true := by rfl) (he : (backToKw pos (keywordEach kws X.env)).filterMap (·.1) = ks := by rfl) (hdb : (x == ("__debug__" : Str)) = false := by decide)
    (hst : starEach (e :: es) X.env = (false, eval e X.env) :: starEach es X.env := by rfl)
    (hpl : ((backTo pos (starEach (e :: es) X.env)).any (·.1) || (backToKw pos (keywordEach kws X.env)).any (·.1.isNone)) = false := by rfl) :
    SE X c W (.Call (.Name x p) (e :: es) kws pos) (eMake k (permF pp qq sem) (os ++ os2) (gP J dps)) := by
  obtain ⟨f, fd, ⟨h1, h2, h3, dvs, h4, h5, hd⟩, h6⟩ := M
  have ld : dvs.length = nd := by rw [← hnd, (hd.r (fun _ => none) Emp).len]
  obtain ⟨its, rT, hB⟩ := bindsX h4 h5 ld hb
  refine ⟨fun pins s σ H Q I h => ?_⟩
  refine wpAny_Call_Name_kw (ld_glob I hg hm ?_ hdb)
  have h' := makeX_q hd hp hn h
  refine PySem.W.callWith_KW (h₀ := X.base) I.ok.mod.kin kp hall (thn (ha.run pos pins s σ H _ I h') fun us s1 ⟨vs, H1, I1, r, hl1, q⟩ => ?_) hpl hst
  refine thn (hkw.run pos pins s1 σ H1 _ I1 q) fun ws s2 ⟨zs, H2, I2, rz, hl, q2⟩ => ⟨I2.kIn, ?_⟩
  rw [he]
  refine run_makeX (g := fun a => gP pp (((a :: us) ++ ws) ++ gP J its)) (gV := fun a => gP pp (((a :: vs) ++ zs) ++ gP J dvs)) ⟨mk, h1, h2, kp⟩ h6 D.gd (D.hr.mono hr) (fun s a hK => hB s (.ref a :: us) ws hK ?_ ?_) (passAt D.tk σ) I2 (fun a => Tr.Vals.perm (((show Vals (V.ref a :: vs) (Value.ref a :: us) from .cons rfl r).append rz).append (Tr.Vals.perm rT J)) pp) q2
  · rw [List.length_cons, ← r.length, hl1]
  · rw [← rz.length, hl, hks]
theorem e_makeX0 (D : Dk X c W j) (M : MDefD X.prog X.w X.K X.mg X.base c lv k "__init__" qual st ps dps sem) (mk : PySem.W.makesIn X.K (c.cA k) = true) (kp : PySem.W.keepIn X.K (.ref (c.cA k)) = true) (hr : lv + 1 ≤ j) (hg : Gl X x) (hm : X.mg x = some (.ref (c.cA k)))
    (hb : KwX "__init__" qual st ps nd 1 ks J pp) (hnd : dps.length = nd) (hks : ks.length = os2.length) (hp : PermOk ps.length pp qq) (hn : os2.length + (gP J dps).length + 1 = ps.length)
    (hkw : SK X c W kws os2) (hall : (backToKw pos (keywordEach kws X.env)).all (·.1.isSome) = true := by rfl) (he : (backToKw pos (keywordEach kws X.env)).filterMap (·.1) = ks := by rfl) (hdb : (x == ("__debug__" : Str)) = false := by decide)
    (hpl : ((backTo pos (starEach [] X.env)).any (·.1) || (backToKw pos (keywordEach kws X.env)).any (·.1.isNone)) = false := by rfl) :
    SE X c W (.Call (.Name x p) [] kws pos) (eMake k (permF pp qq sem) os2 (gP J dps)) := by
  obtain ⟨f, fd, ⟨h1, h2, h3, dvs, h4, h5, hd⟩, h6⟩ := M
  have ld : dvs.length = nd := by rw [← hnd, (hd.r (fun _ => none) Emp).len]
  obtain ⟨its, rT, hB⟩ := bindsX h4 h5 ld hb
  refine ⟨fun pins s σ H Q I h => ?_⟩
  refine wpAny_Call_Name_kw (ld_glob I hg hm ?_ hdb)
  refine PySem.W.callWith_KW0 (h₀ := X.base) I.ok.mod.kin kp hall ?_ hpl
  have h' := makeX_q (os := []) hd hp (by simpa using hn) h
  refine thn (hkw.run pos pins s σ H _ I h'.2) fun ws s2 ⟨zs, H2, I2, rz, hl, q2⟩ => ⟨I2.kIn, ?_⟩
  rw [he]
  refine run_makeX (us := []) (g := fun a => gP pp ((([a]) ++ ws) ++ gP J its)) (gV := fun a => gP pp (([a] ++ zs) ++ gP J dvs)) ⟨mk, h1, h2, kp⟩ h6 D.gd (D.hr.mono hr) (fun s a hK => hB s [.ref a] ws hK rfl ?_) (passAt D.tk σ) I2 (fun a => Tr.Vals.perm (((show Vals [V.ref a] [Value.ref a] from .cons rfl .nil).append rz).append (Tr.Vals.perm rT J)) pp) q2
  rw [← rz.length, hl, hks]
end
/-! ### the head -/
section
variable {K : PySem.W.Frag} {mg : Str → Option Value} {h : Heap} {c : RC}
theorem dflV {K : PySem.W.Frag} {T : Addr} {its : List Value} {n : Nat} {sl : Array (Option Value)} {dvs : List V} (l : K.lookup T = some ⟨.type "tuple", none, .seq its.toArray n, sl⟩) (r : Vals dvs its) (hn : dvs ≠ []) : DflV K (.ref T) dvs :=
  .inr ⟨hn, T, _, its, n, rfl, l, rfl, r⟩
theorem mkMethD {k : Nat} {m qual : Str} {st : Stmt} {f : Addr} {oc : Value} {od an : Option Addr} {osl : Array (Option Value)} {dV kV doc pm cdv ct : Value} {dps : List PV} {dvs : List V}
    (a : PySem.W.findIn K (.ref (c.cA k)) m = some (some (.ref f))) (fn : PySem.W.isFn K (.ref f) = true) (fi : PySem.W.fnIn K f = true) (l : K.lookup f = some ⟨oc, od, .func (PySem.W.fnOf m qual (defArgs st) (defBody st) (defScope st) dV kV doc pm an cdv ct), osl⟩)
    (cd : PySem.W.codeIn K cdv qual = true) (kp : PySem.W.keepIn K (.ref f) = true) (hD : DflV K dV dvs) (hn : dvs ≠ []) (hd : DfOk c dps dvs) : ∃ f fd, MTxD K c k m qual st dps f fd :=
  ⟨f, _, a, fn, fi, dvs, ⟨⟨_, _, _, _, _, _, _, _, _, _, rfl, l, cd, hD, .inl rfl⟩, kp⟩, hn, hd⟩
end
end Tr
set_option Elab.async false
set_option linter.all false
set_option maxRecDepth 100000
set_option maxHeartbeats 4000000
/-! Tr.D2: != of instances with an own ==; a tuple turned about. -/
namespace Tr
open PySem PySem.Spec PyProof.Rows L2
end Tr
set_option Elab.async false
set_option linter.all false
set_option maxRecDepth 100000
set_option maxHeartbeats 4000000
/-! Tr.D3: a list or a tuple turned about: x[::-1]. -/
namespace Tr
open PySem PySem.Spec PyProof.Rows L2
end Tr
/-! Tr: dicts, on trees: their values are frozen. -/
set_option autoImplicit false
namespace Tr
def keyP : PV → Option Key
  | .int i => some (.inl i)
  | .str x => some (.inr x)
  | _ => none
def repD : List Key → List PV → Key → PV → List PV
  | k' :: ks, x :: xs, k, v => (if k' = k then v else x) :: repD ks xs k v
  | _, _, _, _ => []
def hasK : List Key → Key → Bool
  | [], _ => false
  | k' :: ks, k => if k' = k then true else hasK ks k
/-- d[k] = v: the keys, the values -/
def putKs (ks : List Key) (k : Key) : List Key := if hasK ks k = true then ks else ks ++ [k]
def putVs (ks : List Key) (xs : List PV) (k : Key) (v : PV) : List PV := if hasK ks k = true then repD ks xs k v else xs ++ [v]
def getD : List Key → List PV → Key → Option PV
  | k' :: ks, x :: xs, k => if k' = k then some x else getD ks xs k
  | _, _, _ => none
/-- dict(x) -/
def pairsP : List PV → Option (List (Key × PV))
  | [] => some []
  | .tup [k, v] :: xs => (keyP k).bind fun kk => (pairsP xs).map ((kk, v) :: ·)
  | _ => none
def mrgD : List (Key × PV) → List Key → List PV → PV
  | [], ks, vs => .dct true ks vs
  | (k, v) :: ps, ks, vs => mrgD ps (putKs ks k) (putVs ks vs k v)
def fDict : PV → Option PV
  | .tup xs => if fros xs then (pairsP xs).map fun ps => mrgD ps [] [] else none
  | .dct _ ks xs => if fros xs then some (.dct true ks xs) else none
  | _ => none
end Tr
set_option Elab.async false
set_option linter.all false
set_option maxRecDepth 100000
set_option maxHeartbeats 4000000
/-! Tr.Dc: dict comprehensions. -/
namespace Tr
open PySem PySem.Spec L2
def repV : List Key → List V → Key → V → List V
  | k' :: ks, x :: xs, k, v => (if k' = k then v else x) :: repV ks xs k v
  | _, _, _, _ => []
def putVV (ks : List Key) (xs : List V) (k : Key) (v : V) : List V := if hasK ks k = true then repV ks xs k v else xs ++ [v]
section
variable {c : RC} {H : Hp} {F : AS}
theorem Rs.repD {v : PV} {z : V} (k : Key) (r : R c H F v z Emp) : ∀ {ks : List Key} {xs : List PV} {us : List V}, ks.length = xs.length → Rs c H F xs us Emp → Rs c H F (Tr.repD ks xs k v) (repV ks us k z) Emp
  | [], xs, us, _, _ => rfl
  | k' :: ks, x :: xs, us, h, rs => by
    obtain ⟨u, us', b, d, e, sb, sd, dd, r1, r2⟩ := rs
    subst e
    rw [Tr.repD, repV]
    have ih := Rs.repD k r (ks := ks) (by simpa using h) (r2.mono sd)
    by_cases e : k' = k
    · rw [if_pos e, if_pos e]; exact ⟨z, _, Emp, Emp, rfl, Sub.emp, Sub.emp, Dis.empl, r, ih⟩
    · rw [if_neg e, if_neg e]; exact ⟨u, _, Emp, Emp, rfl, Sub.emp, Sub.emp, Dis.empl, r1.mono sb, ih⟩
  | _ :: _, [], _, h, _ => by cases h
theorem Rs.put {v : PV} {z : V} (k : Key) (r : R c H F v z Emp) {ks : List Key} {xs : List PV} {us : List V} (h : ks.length = xs.length) (rs : Rs c H F xs us Emp) : Rs c H F (putVs ks xs k v) (putVV ks us k z) Emp := by
  unfold putVs putVV
  split
  · exact Rs.repD k r h rs
  · exact (Rs.append rs (Rs.one r) Dis.empl).mono (Sub.uni Sub.emp Sub.emp)
end
end Tr
set_option Elab.async false
set_option linter.all false
set_option maxRecDepth 100000
set_option maxHeartbeats 4000000
/-! Tr.Dc2: dict comprehensions as values. -/
namespace Tr
open PySem PySem.Spec L2
section
variable {X : Cx} {c : RC} {W : WX} {tg it kx vx : Expr} {ifs : List Expr} {scope : Scope} {own : List (Str × Nat)} {pos : Pos} {w : IF} {b : BF} {tst : TF} {f gf : EF} {i : Nat}
structure BlkD (X : Cx) (c : RC) (tg kx vx : Expr) (ifs : List Expr) (scope : Scope) (own : List (Str × Nat)) (b : BF) (tst : TF) (f gf : EF) : Prop where
  ok : BlkOk X.N X.env.scope scope own
  g : ∀ (s : Shared) (H : Hp) (C : Addr) (cl : List (Str × Addr)) (fp : List Addr), SG c (fxOwn (own.map (·.2))) (X.blk s H scope (compEnvC scope cl C X.env) fp) tg b
  t : ∀ (s : Shared) (H : Hp) (C : Addr) (cl : List (Str × Addr)) (fp : List Addr), PTs (X.blk s H scope (compEnvC scope cl C X.env) fp) ifs (tTs c W0 tst)
  k : ∀ (s : Shared) (H : Hp) (C : Addr) (cl : List (Str × Addr)) (fp : List Addr), SE (X.blk s H scope (compEnvC scope cl C X.env) fp) c W0 kx f
  v : ∀ (s : Shared) (H : Hp) (C : Addr) (cl : List (Str × Addr)) (fp : List Addr), SE (X.blk s H scope (compEnvC scope cl C X.env) fp) c W0 vx gf
theorem BlkD.of {elt : Expr} (B : Blk X c tg kx ifs scope own b tst f) (B2 : Blk X c tg vx ifs scope own b tst gf) : BlkD X c tg kx vx ifs scope own b tst f gf := ⟨B.ok, B.g, B.t, B.e, B2.e⟩
end
end Tr
set_option Elab.async false
set_option linter.all false
set_option maxRecDepth 100000
set_option maxHeartbeats 4000000
/-! Tr.Dm: {**d, k: v}: a dict merged into another by a display. -/
namespace Tr
open PySem PySem.Spec PyProof.Rows
end Tr
set_option Elab.async false
set_option linter.all false
set_option maxRecDepth 100000
set_option maxHeartbeats 4000000
namespace Tr
open PySem PySem.Spec PyProof.Rows L2
end Tr
set_option Elab.async false
set_option linter.all false
set_option maxRecDepth 100000
set_option maxHeartbeats 4000000
/-! Tr.Dm3: {**d, k: v} on trees. -/
namespace Tr
open PySem PySem.Spec L2
end Tr
set_option Elab.async false
set_option linter.all false
set_option maxRecDepth 100000
set_option maxHeartbeats 4000000
/-! Tr.Dd: dicts read. -/
namespace Tr
open PySem PySem.Spec PyProof.Rows L2
/-! ### d[k], k in d -/
section
variable {c : RC} {H : Hp} {F : AS}
theorem Rs.getD {k : Key} : ∀ {ks : List Key} {xs : List PV} {us : List V} {z : PV}, ks.length = xs.length → Rs c H F xs us Emp → Tr.getD ks xs k = some z → ∃ v, valV (ks.zip us) k = some v ∧ R c H F z v Emp
  | [], xs, _, _, _, _, e => by simp [Tr.getD] at e
  | k' :: ks, x :: xs, us, z, h, rs, e => by
    obtain ⟨u, us', b, d, e1, sb, sd, dd, r1, r2⟩ := rs
    subst e1
    rw [Tr.getD] at e
    rw [List.zip_cons_cons]
    by_cases q : k' = k
    · rw [if_pos q] at e
      cases e
      exact ⟨u, valV_pos (p := (k', u)) q, r1.mono sb⟩
    · rw [if_neg q] at e
      rw [valV_neg (p := (k', u)) q]
      exact Rs.getD (by simpa using h) (r2.mono sd) e
  | _ :: _, [], _, _, h, _, _ => by cases h
end
end Tr
set_option Elab.async false
set_option linter.all false
set_option maxRecDepth 100000
set_option maxHeartbeats 4000000
/-! Tr.De: sorted(d), list(d), dict(x). -/
namespace Tr
open PySem PySem.Spec PyProof.Rows L2
section
variable {X : Cx} {c : RC} {W : WX} {k : Nat} {a b : Expr} {oa ob : Opd} {pos p : Pos}
/-! ### list(d) -/
/-! ### dict(x) -/
theorem Fin.dct {Q : VK} {H : Hp} {F : AS} {ks : List Key} {xs : List PV} {vs : List V} (h : Fin c H F (.dct true ks xs) Q) (g : Good H F Emp) (r : Rs c H F xs vs Emp) (hl : ks.length = xs.length) (l : xs.length ≤ big) {p : Addr} (hp : H p = none) : Q (.ref p) (upd H p (.dK (ks.zip vs))) := by
  have g1 : Good (upd H p (.dK (ks.zip vs))) F (fun q => q = p) := (g.new hp (o := .dK (ks.zip vs)) trivial).sub Sub.r
  refine h (.ref p) _ (fun q => q = p) ((Stp.new hp).drop Sub.r) g1 ?_
  exact ⟨p, vs, Emp, rfl, ⟨hl, l⟩, upd_same, rfl, id, Sub.emp, Rs.step g (Stp.newT (A := Emp) hp) r Dis.empl⟩
end
end Tr
set_option Elab.async false
set_option linter.all false
set_option maxRecDepth 100000
set_option maxHeartbeats 4000000
/-! Tr.Di: list(d.items()). -/
namespace Tr
open PySem PySem.Spec PyProof.Rows L2
end Tr
set_option Elab.async false
set_option linter.all false
set_option maxRecDepth 100000
set_option maxHeartbeats 4000000
/-! Tr.In: a in b, b an instance with its own __contains__; nothing is raised. -/
namespace Tr
open PySem PySem.Spec PyProof.Rows L2
end Tr
set_option Elab.async false
set_option linter.all false
set_option maxRecDepth 100000
set_option maxHeartbeats 4000000
/-! Tr.Ns: sets of tuples of ints and None: set(), x in s, s.add(x). -/
namespace Tr
open PySem PySem.Spec PyProof.Rows L2
end Tr
set_option autoImplicit false
/-! Tr: zip of a tuple and a list. -/
namespace Tr
end Tr
set_option autoImplicit false
/-! Tr: a frozen dict's items walked. -/
namespace Tr
end Tr
set_option autoImplicit false
/-! Tr: what is walked with its places. -/
namespace Tr
end Tr
set_option autoImplicit false
/-! Tr: a list beside the empty list: nothing is asked of its items. -/
namespace Tr
def cNe0 : PV → PV → Option Bool
  | .lst _ (_ :: _), .lst _ [] => some true
  | v, w => cNe v w
def cEq0 : PV → PV → Option Bool
  | .lst _ (_ :: _), .lst _ [] => some false
  | v, w => cEq v w
theorem ne0 {b d : Bool} {xs : List PV} : cNe0 (.lst b xs) (.lst d []) = some (!xs.isEmpty) := by
  cases xs with
  | nil => rfl
  | cons => rfl
end Tr
set_option autoImplicit false
/-! Tr: dicts in local names: stored to, walked by keys and items; max with a default. -/
namespace Tr
end Tr
set_option autoImplicit false
/-! Tr: an item taken out of a list. -/
namespace Tr
/-- x.pop(f), as a value -/
def ePop (i : Nat) (f : EF) : EF := fun ρ => match slot ρ i with
  | some (.lst _ _) => (f ρ).bind fun v ρ1 => match slot ρ1 i, v with
    | some (.lst true xs), .int k => match ixN xs.length k with
      | some j => match xs[j]? with
        | some x => if fro x = true then .ok x (ρ1.set i (some (.lst true (xs.eraseIdx j)))) else .bad
        | none => .bad
      | none => .bad
    | _, _ => .bad
  | _ => .bad
end Tr
set_option autoImplicit false
/-! Tr: how many distinct texts a comprehension meets. -/
namespace Tr
open PySem (Str)
def fcnt (vs : List PV) (ρ : Env) : Res PV := match allS vs with
  | some ss => if ss.length < 4000 then .ok (.int (dcount ss ss.length : Nat)) ρ else .bad
  | none => .bad
/-- len({f for b in w if t}) -/
def eLenSc (own : List Nat) (w : IF) (b : BF) (t : TF) (f : EF) : EF := fun ρ => (w ρ).bind fun xs ρ1 => (compL own b t f xs (wipeE own ρ1)).bindB fun vs ρ2 => fcnt vs (restore own ρ1 ρ2)
theorem dcount_app {xs : List Str} {y : Str} : ∀ i, i ≤ xs.length → dcount (xs ++ [y]) i = dcount xs i
  | 0, _ => rfl
  | i + 1, h => by
    rw [dcount, dcount, dcount_app i (by omega)]
    have e1 : (xs ++ [y]).take i = xs.take i := by rw [List.take_append_of_le_length (by omega)]
    have e2 : (xs ++ [y]).getD i Str.empty = xs.getD i Str.empty := by
      rw [List.getD_eq_getElem?_getD, List.getD_eq_getElem?_getD, List.getElem?_append_left (by omega)]
    rw [e1, e2]
theorem dcount_snoc {xs : List Str} {y : Str} : dcount (xs ++ [y]) (xs ++ [y]).length = if xs.any (· == y) then dcount xs xs.length else dcount xs xs.length + 1 := by
  rw [List.length_append, List.length_singleton, dcount, dcount_app _ (Nat.le_refl _)]
  have e1 : (xs ++ [y]).take xs.length = xs := by rw [List.take_append_of_le_length (Nat.le_refl _), List.take_length]
  have e2 : (xs ++ [y]).getD xs.length Str.empty = y := by
    rw [List.getD_eq_getElem?_getD, List.getElem?_append_right (Nat.le_refl _), Nat.sub_self]; rfl
  rw [e1, e2]
theorem allS_append : ∀ {xs ys : List PV} {ss : List Str}, allS (xs ++ ys) = some ss → ∃ s1 s2, allS xs = some s1 ∧ allS ys = some s2 ∧ ss = s1 ++ s2
  | [], ys, ss, h => ⟨[], ss, rfl, h, rfl⟩
  | .str x :: xs, ys, ss, h => by
    rw [List.cons_append, allS] at h
    cases q : allS (xs ++ ys) with
    | none => rw [q] at h; cases h
    | some s =>
      rw [q] at h
      obtain ⟨s1, s2, e1, e2, rfl⟩ := allS_append q
      cases h
      exact ⟨x :: s1, s2, by rw [allS, e1]; rfl, e2, rfl⟩
  | .non :: _, _, _, h => by cases h
  | .bl _ :: _, _, _, h => by cases h
  | .int _ :: _, _, _, h => by cases h
  | .tup _ :: _, _, _, h => by cases h
  | .lst _ _ :: _, _, _, h => by cases h
  | .dct _ _ _ :: _, _, _, h => by cases h
  | .ins _ _ _ :: _, _, _, h => by cases h
  | .con _ :: _, _, _, h => by cases h
  | .exc _ _ :: _, _, _, h => by cases h
  | .st _ _ :: _, _, _, h => by cases h
theorem allS_strs : ∀ ss : List Str, allS (ss.map PV.str) = some ss
  | [] => rfl
  | s :: ss => by rw [List.map_cons, allS, allS_strs ss]; rfl
theorem allS_eq : ∀ {xs : List PV} {ss : List Str}, allS xs = some ss → xs = ss.map .str
  | [], ss, h => by cases h; rfl
  | .str x :: xs, ss, h => by
    rw [allS] at h
    cases q : allS xs with
    | none => rw [q] at h; cases h
    | some s => rw [q] at h; cases h; rw [List.map_cons, allS_eq q]
  | .non :: _, _, h => by cases h
  | .bl _ :: _, _, h => by cases h
  | .int _ :: _, _, h => by cases h
  | .tup _ :: _, _, h => by cases h
  | .lst _ _ :: _, _, h => by cases h
  | .dct _ _ _ :: _, _, h => by cases h
  | .ins _ _ _ :: _, _, h => by cases h
  | .con _ :: _, _, h => by cases h
  | .exc _ _ :: _, _, h => by cases h
  | .st _ _ :: _, _, h => by cases h
end Tr
/-! Tr.UnSem: a, b, .. = a tuple or a list. -/
set_option autoImplicit false
namespace Tr
def bTL (bs : List BF) : BF := fun v ρ => match v with
  | .tup xs => bAll bs xs ρ
  | .lst _ xs => bAll bs xs ρ
  | _ => none
@[simp] theorem bTL_t {bs : List BF} {xs : List PV} {ρ : Env} : bTL bs (.tup xs) ρ = bAll bs xs ρ := (rfl)
@[simp] theorem bTL_l {bs : List BF} {w : Bool} {xs : List PV} {ρ : Env} : bTL bs (.lst w xs) ρ = bAll bs xs ρ := (rfl)
end Tr
set_option Elab.async false
set_option linter.all false
set_option maxRecDepth 100000
namespace Law
open PySem Tr
def b_Joining_parts : SF := (sRet (eP1 (pj [(4, 0)] onlyFro) (.nm 0)))
def f_Joining_parts : FF := mk [true] 1 b_Joining_parts
def b__law_pot : SF := (sSeq (sSet 2 (eIf (tPV2 cLt (.nm 1) (.ev (eP1 fLen (.nm 0)))) (eP2 ix (.nm 0) (.nm 1)) (eC (.int 0))))
    (sSeq (sSet 3 (eP2 bMod (.ev (eP1 fInt (.ev (eP2 bAdd (.ev (eP2 bAdd (.ev (eP2 bMul (.nm 2) (.ev (eC (.int 7368787))))) (.ev (eP2 bMul (.ev (eC (.int 104729))) (.nm 1))))) (.ev (eC (.int 15485863))))))) (.ev (eC (.int 999999999961)))))
    (sRet (eLst (aCons (eP2 fMax2 (.ev (eC (.int 0))) (.ev (eP2 bSub (.ev (eP1 fAbs (.nm 2))) (.ev (eP2 bPow (.ev (eC (.int 10))) (.ev (eC (.int 18)))))))) (aCons (eP2 bMod (.ev (eP1 fInt (.nm 2))) (.ev (eC (.int 999999999989)))) (aCons (eNm 3) aNil)))))))
def f__law_pot : FF := mk [true, true] 4 b__law_pot
def b__law_draw : SF := (sSeq (sIf (tPV2 cGt (.ev (eP2 ix (.nm 0) (.ev (eC (.int 0))))) (.ev (eC (.int 0)))) (sSeq (sSet 2 (eP2 bMod (.ev (eP1 fInt (.ev (eP2 ix (.nm 0) (.ev (eC (.int 0))))))) (.nm 1)))
    (sSeq (sPutL 0 (eC (.int 0)) (eP2 bDiv (.ev (eP2 ix (.nm 0) (.ev (eC (.int 0))))) (.nm 1)))
    (sRet (eMv 2)))) sNx)
    (sSeq (sSet 3 (eP2 bMod (.ev (eP1 fInt (.ev (eP2 bAdd (.ev (eP2 bAdd (.ev (eP2 bMul (.ev (eP2 ix (.nm 0) (.ev (eC (.int 1))))) (.ev (eC (.int 40499))))) (.ev (eP2 bMul (.ev (eP2 ix (.nm 0) (.ev (eC (.int 2))))) (.ev (eP2 ix (.nm 0) (.ev (eC (.int 2))))))))) (.ev (eC (.int 7753))))))) (.ev (eC (.int 999999999989)))))
    (sSeq (sPutL 0 (eC (.int 1)) (eP2 ix (.nm 0) (.ev (eC (.int 2)))))
    (sSeq (sPutL 0 (eC (.int 2)) (eNm 3))
    (sRet (eP2 bMod (.ev (eP2 bDiv (.nm 3) (.ev (eC (.int 509))))) (.nm 1)))))))
def f__law_draw : FF := mk [true, true] 4 b__law_draw
def b__law_names : SF := (sSeq (sSetT (bT [(bN 2), (bN 3)]) (eTup (aCons (eP1 fListS (.ev (eC (.str "abcdefghijklmnopqrstuvwxyz")))) (aCons (eLst aNil) aNil))))
    (sSeq (sFor (iRange1 (eNm 1)) (bN 4) (sSeq (sSet 5 (eP1 (fJoin (.str "")) (.ev (eComp [8] (iRange1 (eP2 bAdd (.ev (eC (.int 1))) (.ev (eCall f__law_draw [(.nm 0), (.ev (eC (.int 8)))] [])))) (bN 8) tYes (eP2 ix (.nm 2) (.ev (eCall f__law_draw [(.nm 0), (.ev (eC (.int 26)))] [])))))))
    (sSeq (sIf (tAnd (tPV2 cNe0 (.nm 3) (.ev (eLst aNil))) (tPV2 cEq (.ev (eCall f__law_draw [(.nm 0), (.ev (eC (.int 2)))] [])) (.ev (eC (.int 0))))) (sSeq (sPar2 6 7 (aCons (eP2 ix (.nm 3) (.ev (eP1 uNeg (.ev (eC (.int 1)))))) (aCons (eCall f__law_draw [(.nm 0), (.ev (eP1 fLen (.ev (eP2 ix (.nm 3) (.ev (eP1 uNeg (.ev (eC (.int 1)))))))))] []) aNil)))
    (sSet 5 (eP2 bAdd (.ev (eP2 bAdd (.ev (eSl (.nm 6) none (some (eNm 7)))) (.ev (eP2 ix (.nm 2) (.ev (eCall f__law_draw [(.nm 0), (.ev (eC (.int 26)))] [])))))) (.ev (eSl (.nm 6) (some (eP2 bAdd (.nm 7) (.ev (eC (.int 1))))) none))))) sNx)
    (sSeq (sIf (tOr (tPV2 cIn (.nm 5) (.nm 3)) (tPV2 cEq (.nm 5) (.ev (eC (.str "key"))))) (sSet 5 (eP2 ix (.ev (eCompN [9] 2 (bN 9) (tPV2 cNi (.nm 9) (.nm 3)) (eNm 9))) (.ev (eCall f__law_draw [(.nm 0), (.ev (eC (.int 20)))] [])))) sNx)
    (sApp 3 (eNm 5))))))
    (sRet (eP1 fTuple (.nm 3)))))
def f__law_names : FF := mk [true, true] 10 b__law_names
def b__law_some : SF := (sSeq (sPar2 3 4 (aCons (eP1 fList (.nm 1)) (aCons (eLst aNil) aNil)))
    (sSeq (sFor (iRange1 (eP2 fMin2 (.nm 2) (.ev (eP1 fLen (.nm 3))))) (bN 5) (sApp 4 (ePop 3 (eCall f__law_draw [(.nm 0), (.ev (eP1 fLen (.nm 3)))] []))))
    (sRet (eMv 4))))
def f__law_some : FF := mk [true, true, true] 6 b__law_some
def b__law_parts : SF := (sSeq (sSet 3 (eCompN [12] 1 (bN 12) (tPV2 cNe (.nm 12) (.ev (eC (.str "key")))) (eNm 12)))
    (sSeq (sSet 4 (eCall f__law_some [(.nm 0), (.nm 1), (.ev (eP2 bAdd (.ev (eC (.int 1))) (.ev (eCall f__law_draw [(.nm 0), (.ev (eC (.int 2)))] []))))] []))
    (sSeq (sIf (tE (eNm 2)) (sSeq (sSet 4 (eCall f__law_some [(.nm 0), (.nm 3), (.ev (eCall f__law_draw [(.nm 0), (.ev (eC (.int 3)))] []))] []))
    (sSeq (sSet 5 (eCall f__law_draw [(.nm 0), (.ev (eP2 bAdd (.ev (eP1 fLen (.nm 4))) (.ev (eC (.int 1)))))] []))
    (sSet 4 (eP2 bAdd (.ev (eP2 bAdd (.ev (eSl (.nm 4) none (some (eNm 5)))) (.ev (eLst (aCons (eC (.str "key")) aNil))))) (.ev (eSl (.nm 4) (some (eNm 5)) none)))))) sNx)
    (sSeq (sSet 6 (eComp [12] (iE (eCall f__law_some [(.nm 0), (.nm 3), (.ev (eCall f__law_draw [(.nm 0), (.ev (eC (.int 7)))] []))] [])) (bN 12) tYes (eTup (aCons (eNm 12) (aCons (eP2 ix (.ev (eLst (aCons (eC (.str "keep")) (aCons (eC (.str "clear")) aNil)))) (.ev (eCall f__law_draw [(.nm 0), (.ev (eC (.int 2)))] []))) aNil)))))
    (sSeq (sPar2 7 8 (aCons (eP2 ix (.ev (eLst (aCons (eC (.str "all")) (aCons (eC (.str "first")) (aCons (eC (.str "none")) (aCons (eC (.str "refuse")) aNil)))))) (.ev (eCall f__law_draw [(.nm 0), (.ev (eC (.int 4)))] []))) (aCons (eP2 ix (.ev (eLst (aCons (eC (.str "skip")) (aCons (eC (.str "make")) (aCons (eC (.str "refuse")) aNil))))) (.ev (eCall f__law_draw [(.nm 0), (.ev (eC (.int 3)))] []))) aNil)))
    (sSeq (sPar2 9 10 (aCons (eP2 ix (.ev (eLst (aCons (eC (.str "keep")) (aCons (eC (.str "drop")) aNil)))) (.ev (eCall f__law_draw [(.nm 0), (.ev (eC (.int 2)))] []))) (aCons (eP2 ix (.ev (eLst (aCons (eC (.str "sent")) (aCons (eC (.str "all")) aNil)))) (.ev (eCall f__law_draw [(.nm 0), (.ev (eC (.int 2)))] []))) aNil)))
    (sSeq (sSet 11 (eCall f__law_some [(.nm 0), (.nm 1), (.ev (eP2 ix (.ev (eLst (aCons (eC (.int 0)) (aCons (eC (.int 0)) (aCons (eC (.int 1)) (aCons (eC (.int 3)) aNil)))))) (.ev (eCall f__law_draw [(.nm 0), (.ev (eC (.int 4)))] []))))] []))
    (sRet (eTup (aCons (eP1 fTuple (.nm 4)) (aCons (eP1 fTuple (.nm 6)) (aCons (eNm 7) (aCons (eNm 8) (aCons (eNm 9) (aCons (eP1 fTuple (.nm 11)) (aCons (eNm 10) aNil))))))))))))))))
def f__law_parts : FF := mk [true, true, true] 13 b__law_parts
def b__law_is_names : SF := (sSeq (sIf (tOr (tNot (tE (eT (tPV (isA .tuple) (.nm 0))))) (tPV2 cNe0 (.ev (eCompN [4] 0 (bN 4) (tNot (tE (eT (tPV (isA .str) (.nm 4))))) (eNm 4))) (.ev (eLst aNil)))) (sRet (eC (.bl false))) sNx)
    (sSeq (sFor (iRange1 (eP1 fLen (.nm 0))) (bN 2) (sSeq (sSet 3 (eP2 ix (.nm 0) (.nm 2)))
    (sSeq (sIf (tOr (tPV2 cIn (.nm 3) (.ev (eSl (.nm 0) none (some (eNm 2))))) (tOr (tAnd (tPV2 cEq (.nm 3) (.ev (eC (.str "key")))) (tNot (tE (eNm 1)))) (tOr (tPV2 cLt (.ev (eP1 fLen (.nm 3))) (.ev (eC (.int 1)))) (tPV2 cGt (.ev (eP1 fLen (.nm 3))) (.ev (eC (.int 8))))))) (sRet (eC (.bl false))) sNx)
    (sIf (tPV2 cNe0 (.ev (eComp [5] (iE (eP1 fListS (.nm 3))) (bN 5) (tPV2 cNi (.nm 5) (.ev (eC (.str "abcdefghijklmnopqrstuvwxyz")))) (eNm 5))) (.ev (eLst aNil))) (sRet (eC (.bl false))) sNx))))
    (sRet (eC (.bl true)))))
def f__law_is_names : FF := mk [true, true] 6 b__law_is_names
def b__law_is_write : SF := (sSeq (sIf (tOr (tNot (tE (eT (tPV (isA .tuple) (.nm 0))))) (tPV2 cNe0 (.ev (eCompN [1] 0 (bN 1) (tOr (tNot (tE (eT (tPV (isA .tuple) (.nm 1))))) (tPV2 cNe (.ev (eP1 fLen (.nm 1))) (.ev (eC (.int 2))))) (eNm 1))) (.ev (eLst aNil)))) (sRet (eC (.bl false))) sNx)
    (sSeq (sIf (tPV2 cNe0 (.ev (eCompN [1] 0 (bN 1) (tOr (tNot (tE (eT (tPV (isA .str) (.ev (eP2 ix (.nm 1) (.ev (eC (.int 1))))))))) (tPV2 cNi (.ev (eP2 ix (.nm 1) (.ev (eC (.int 1))))) (.ev (eTup (aCons (eC (.str "keep")) (aCons (eC (.str "clear")) aNil)))))) (eNm 1))) (.ev (eLst aNil))) (sRet (eC (.bl false))) sNx)
    (sRet (eCall f__law_is_names [(.ev (eP1 fTuple (.ev (eCompN [1] 0 (bN 1) tYes (eP2 ix (.nm 1) (.ev (eC (.int 0)))))))), (.ev (eC (.bl false)))] []))))
def f__law_is_write : FF := mk [true] 2 b__law_is_write
def b__law_wrong : SF := (sSeq (sSetT (bTL [(bN 1), (bN 2), (bN 3), (bN 4), (bN 5), (bN 6), (bN 7)]) (eNm 0))
    (sSeq (sIf (tOr (tNot (tE (eCall f__law_is_names [(.nm 1), (.ev (eC (.bl true)))] []))) (tPV2 cEq (.nm 1) (.ev (eTup aNil)))) (sRet (eC (.str "match"))) sNx)
    (sSeq (sIf (tNot (tE (eCall f__law_is_write [(.nm 2)] []))) (sRet (eC (.str "write"))) sNx)
    (sSeq (sIf (tOr (tNot (tE (eT (tPV (isA .str) (.nm 3))))) (tPV2 cNi (.nm 3) (.ev (eTup (aCons (eC (.str "all")) (aCons (eC (.str "first")) (aCons (eC (.str "none")) (aCons (eC (.str "refuse")) aNil)))))))) (sRet (eC (.str "many"))) sNx)
    (sSeq (sIf (tOr (tNot (tE (eT (tPV (isA .str) (.nm 4))))) (tPV2 cNi (.nm 4) (.ev (eTup (aCons (eC (.str "skip")) (aCons (eC (.str "make")) (aCons (eC (.str "refuse")) aNil))))))) (sRet (eC (.str "new"))) sNx)
    (sSeq (sIf (tOr (tNot (tE (eT (tPV (isA .str) (.nm 5))))) (tPV2 cNi (.nm 5) (.ev (eTup (aCons (eC (.str "keep")) (aCons (eC (.str "drop")) aNil)))))) (sRet (eC (.str "gone"))) sNx)
    (sSeq (sIf (tNot (tE (eCall f__law_is_names [(.nm 6), (.ev (eC (.bl true)))] []))) (sRet (eC (.str "guard"))) sNx)
    (sRet (eIf (tAnd (tE (eT (tPV (isA .str) (.nm 7)))) (tPV2 cIn (.nm 7) (.ev (eTup (aCons (eC (.str "sent")) (aCons (eC (.str "all")) aNil)))))) (eC .non) (eC (.str "scope")))))))))))
def f__law_wrong : FF := mk [true] 8 b__law_wrong
def b__law_bent : SF := (sSeq (sSet 3 (eP2 ix (.ev (eFrz (eLst (aCons (eC .non) (aCons (eC (.bl true)) (aCons (eC (.int 0)) (aCons (eC (.int 1)) (aCons (eC (.str "")) (aCons (eC (.str "key")) (aCons (eFrz (eLst aNil)) (aCons (eFrz eDct0) (aCons (eTup aNil) (aCons (eTup (aCons (eC (.str "all")) aNil)) (aCons (eC (.str "keep")) (aCons (eC (.str "All")) (aCons (eC (.str "refuse")) aNil)))))))))))))))) (.ev (eCall f__law_draw [(.nm 0), (.ev (eC (.int 13)))] []))))
    (sSeq (sIf (tPV2 cIn (.nm 1) (.ev (eTup (aCons (eC (.int 0)) (aCons (eC (.int 5)) aNil))))) (sSeq (sSet 4 (eP2 ix (.ev (eFrz (eLst (aCons (eC (.str "")) (aCons (eC (.str "Size")) (aCons (eC (.str "a b")) (aCons (eC (.str "ninechars")) (aCons (eC (.str "key")) (aCons (eC (.str "size")) (aCons (eC (.str "a1")) (aCons (eC (.str "key ")) aNil))))))))))) (.ev (eCall f__law_draw [(.nm 0), (.ev (eC (.int 8)))] []))))
    (sSeq (sSet 5 (eCall f__law_draw [(.nm 0), (.ev (eP2 bAdd (.ev (eP1 fLen (.nm 2))) (.ev (eC (.int 1)))))] []))
    (sSeq (sSet 6 (eLst (aCons (eFrz (eP1 fList (.nm 2))) (aCons (eP2 bAdd (.nm 2) (.ev (eSl (.nm 2) none (some (eC (.int 1)))))) (aCons (eP2 bAdd (.ev (eP2 bAdd (.ev (eSl (.nm 2) none (some (eNm 5)))) (.ev (eTup (aCons (eNm 4) aNil))))) (.ev (eSl (.nm 2) (some (eNm 5)) none))) (aCons (eP2 bAdd (.ev (eP2 bAdd (.ev (eSl (.nm 2) none (some (eNm 5)))) (.ev (eTup (aCons (eNm 3) aNil))))) (.ev (eSl (.nm 2) (some (eNm 5)) none))) (aCons (eNm 3) aNil)))))))
    (sRet (eP2 ix (.ev (eFrz (eP2 bAdd (.nm 6) (.ev (eLst (aCons (eP1 (fJoin (.str "")) (.ev (eP1 fList (.nm 2)))) (aCons (eNm 4) aNil))))))) (.ev (eCall f__law_draw [(.nm 0), (.ev (eC (.int 7)))] []))))))) sNx)
    (sSeq (sIf (tPV2 cEq (.nm 1) (.ev (eC (.int 1)))) (sSeq (sPar2 5 7 (aCons (eCall f__law_draw [(.nm 0), (.ev (eP2 bAdd (.ev (eP1 fLen (.nm 2))) (.ev (eC (.int 1)))))] []) (aCons (eP2 ix (.ev (eFrz (eLst (aCons (eC (.str "size")) (aCons (eC (.str "key")) (aCons (eC (.str "Size")) (aCons (eC (.str "")) (aCons (eC (.str "ninechars")) aNil)))))))) (.ev (eCall f__law_draw [(.nm 0), (.ev (eC (.int 5)))] []))) aNil)))
    (sSeq (sSet 8 (eLst (aCons (eTup (aCons (eNm 7) (aCons (eC (.str "keep")) aNil))) (aCons (eTup (aCons (eNm 7) (aCons (eC (.str "Clear")) aNil))) (aCons (eTup (aCons (eNm 7) (aCons (eNm 3) aNil))) (aCons (eTup (aCons (eNm 3) (aCons (eC (.str "clear")) aNil))) (aCons (eFrz (eLst (aCons (eNm 7) (aCons (eC (.str "keep")) aNil)))) (aCons (eTup (aCons (eNm 7) aNil)) (aCons (eNm 3) aNil)))))))))
    (sSeq (sSet 9 (eP2 ix (.ev (eFrz (eP2 bAdd (.nm 8) (.ev (eLst (aCons (eTup (aCons (eNm 7) (aCons (eC (.str "keep")) (aCons (eC (.int 1)) aNil)))) (aCons (eNm 7) aNil))))))) (.ev (eCall f__law_draw [(.nm 0), (.ev (eC (.int 9)))] []))))
    (sSeq (sSet 6 (eLst (aCons (eFrz (eP1 fList (.nm 2))) (aCons (eP2 bAdd (.nm 2) (.ev (eSl (.nm 2) none (some (eC (.int 1)))))) (aCons (eP2 bAdd (.ev (eP2 bAdd (.ev (eSl (.nm 2) none (some (eNm 5)))) (.ev (eTup (aCons (eNm 9) aNil))))) (.ev (eSl (.nm 2) (some (eNm 5)) none))) (aCons (eP2 bAdd (.ev (eP2 bAdd (.ev (eSl (.nm 2) none (some (eNm 5)))) (.ev (eTup (aCons (eNm 9) aNil))))) (.ev (eSl (.nm 2) (some (eP2 bAdd (.nm 5) (.ev (eC (.int 1))))) none))) (aCons (eNm 3) aNil)))))))
    (sRet (eP2 ix (.nm 6) (.ev (eCall f__law_draw [(.nm 0), (.ev (eC (.int 5)))] [])))))))) sNx)
    (sRet (eP2 ix (.ev (eFrz (eP2 bAdd (.ev (eLst (aCons (eC (.str "skip")) (aCons (eC (.str "make")) (aCons (eC (.str "drop")) (aCons (eC (.str "first")) (aCons (eC (.str "none")) (aCons (eC (.str "clear")) (aCons (eC (.str "sent")) (aCons (eC (.str " all")) aNil)))))))))) (.ev (eP2 bRep (.ev (eLst (aCons (eNm 3) aNil))) (.ev (eC (.int 4)))))))) (.ev (eCall f__law_draw [(.nm 0), (.ev (eC (.int 12)))] [])))))))
def f__law_bent : FF := mk [true, true, true] 10 b__law_bent
def b__law_is : SF := (sSeq (sIf (tPV2 cEq (.nm 1) (.ev (eC (.int 0)))) (sRet (eT (tPV (isA .list) (.nm 0)))) sNx)
    (sSeq (sIf (tPV2 cEq (.nm 1) (.ev (eC (.int 1)))) (sRet (eT (tPV (isA .tuple) (.nm 0)))) sNx)
    (sRet (eIf (tPV2 cEq (.nm 1) (.ev (eC (.int 2)))) (eT (tPV (isA .str) (.nm 0))) (eT (tPV (isA .int) (.nm 0)))))))
def f__law_is : FF := mk [true, true] 2 b__law_is
def b__law_same (rec : FF) : SF := (sSeq (sIf (tOr (tE (eT (tPV (isA .bool) (.nm 0)))) (tE (eT (tPV (isA .bool) (.nm 1))))) (sRet (eAnd (tE (eT (tPV (isA .bool) (.nm 0)))) (eAnd (tE (eT (tPV (isA .bool) (.nm 1)))) (eT (tPV2 cEq (.nm 0) (.nm 1)))))) sNx)
    (sSeq (sFor (iE (eTup (aCons (eC (.int 0)) (aCons (eC (.int 1)) (aCons (eC (.int 2)) (aCons (eC (.int 3)) aNil)))))) (bN 2) (sIf (tPV2 cNe (.ev (eCall f__law_is [(.nm 0), (.nm 2)] [])) (.ev (eCall f__law_is [(.nm 1), (.nm 2)] []))) (sRet (eC (.bl false))) sNx))
    (sSeq (sIf (tE (eT (tPV (isA2 .list .tuple) (.nm 1)))) (sSeq (sIf (tPV2 cNe (.ev (eP1 fLen (.nm 0))) (.ev (eP1 fLen (.nm 1)))) (sRet (eC (.bl false))) sNx)
    (sRet (eT (tPV2 cEq0 (.ev (eComp [3] (iRange1 (eP1 fLen (.nm 1))) (bN 3) (tNot (tE (eCall rec [(.ev (eP2 ix (.nm 0) (.nm 3))), (.ev (eP2 ix (.nm 1) (.nm 3)))] []))) (eNm 3))) (.ev (eLst aNil)))))) sNx)
    (sRet (eAnd (tE (eT (tPV2 cEq (.ev (eT (tPV cIsN (.nm 0)))) (.ev (eT (tPV cIsN (.nm 1))))))) (eT (tPV2 cEq (.nm 0) (.nm 1))))))))
def f__law_same : Nat → FF
  | 0 => fun _ => .bad
  | n + 1 => mk [true, true] 4 (b__law_same (f__law_same n))
def b_is_name : SF := (sSeq (sIf (tOr (tNot (tE (eT (tPV (isA .str) (.nm 0))))) (tOr (tNot (tCh cLe cLe (.ev (eC (.int 1))) (.ev (eP1 fLen (.nm 0))) (.ev (eC (.int 8))))) (tPV2 cEq (.nm 0) (.ev (eC (.str "key")))))) (sRet (eC (.bl false))) sNx)
    (sRet (eP1 fAll (.ev (eComp [1] (iS (eNm 0)) (bN 1) tYes (eT (tPV2 cIn (.nm 1) (.ev (eC (.str "abcdefghijklmnopqrstuvwxyz"))))))))))
def f_is_name : FF := mk [true] 2 b_is_name
def b_is_item : SF := (sRet (eOr (tE (eCall f_is_name [(.nm 0)] [])) (eAnd (tE (eT (tPV (isA .str) (.nm 0)))) (eT (tPV2 cEq (.nm 0) (.ev (eC (.str "key"))))))))
def f_is_item : FF := mk [true] 1 b_is_item
def b_are_distinct : SF := (sRet (eT (tPV2 cEq (.ev (eP1 fLenSetS (.nm 0))) (.ev (eP1 fLen (.nm 0))))))
def f_are_distinct : FF := mk [true] 1 b_are_distinct
def b_are_items : SF := (sRet (eAnd (tE (eT (tPV (isA .tuple) (.nm 0)))) (eAnd (tE (eP1 fAll (.ev (eCompN [1] 0 (bN 1) tYes (eCall f_is_item [(.nm 1)] []))))) (eCall f_are_distinct [(.nm 0)] []))))
def f_are_items : FF := mk [true] 2 b_are_items
def b_is_word : SF := (sRet (eAnd (tE (eT (tPV (isA .str) (.nm 0)))) (eT (tPV2 cIn (.nm 0) (.nm 1)))))
def f_is_word : FF := mk [true, true] 2 b_is_word
def b_is_write : SF := (sSeq (sIf (tNot (tE (eT (tPV (isA .tuple) (.nm 0))))) (sRet (eC (.bl false))) sNx)
    (sSeq (sForN 0 (bN 1) (sSeq (sIf (tOr (tNot (tE (eT (tPV (isA .tuple) (.nm 1))))) (tPV2 cNe (.ev (eP1 fLen (.nm 1))) (.ev (eC (.int 2))))) (sRet (eC (.bl false))) sNx)
    (sIf (tOr (tNot (tE (eCall f_is_name [(.ev (eP2 ix (.nm 1) (.ev (eC (.int 0)))))] []))) (tNot (tE (eCall f_is_word [(.ev (eP2 ix (.nm 1) (.ev (eC (.int 1))))), (.ev (eC (.tup [.str "keep", .str "clear"])))] [])))) (sRet (eC (.bl false))) sNx)))
    (sRet (eT (tPV2 cEq (.ev (eLenSc [2, 3] (iE (eNm 0)) (bT [(bN 2), (bN 3)]) tYes (eNm 2))) (.ev (eP1 fLen (.nm 0))))))))
def f_is_write : FF := mk [true] 4 b_is_write
def b_wrong_part : SF := (sSeq (sIf (tOr (tNot (tE (eCall f_are_items [(.nm 0)] []))) (tPV2 cEq (.nm 0) (.ev (eTup aNil)))) (sRet (eC (.str "match"))) sNx)
    (sSeq (sIf (tNot (tE (eCall f_is_write [(.nm 1)] []))) (sRet (eC (.str "write"))) sNx)
    (sSeq (sFor (iE (eTup (aCons (eTup (aCons (eC (.str "many")) (aCons (eNm 2) (aCons (eC (.tup [.str "all", .str "first", .str "none", .str "refuse"])) aNil)))) (aCons (eTup (aCons (eC (.str "new")) (aCons (eNm 3) (aCons (eC (.tup [.str "skip", .str "make", .str "refuse"])) aNil)))) (aCons (eTup (aCons (eC (.str "gone")) (aCons (eNm 4) (aCons (eC (.tup [.str "keep", .str "drop"])) aNil)))) aNil))))) (bT [(bN 7), (bN 8), (bN 9)]) (sIf (tNot (tE (eCall f_is_word [(.nm 8), (.nm 9)] []))) (sRet (eMv 7)) sNx))
    (sSeq (sIf (tNot (tE (eCall f_are_items [(.nm 5)] []))) (sRet (eC (.str "guard"))) sNx)
    (sRet (eIf (tE (eCall f_is_word [(.nm 6), (.ev (eC (.tup [.str "sent", .str "all"])))] [])) (eC .non) (eC (.str "scope"))))))))
def f_wrong_part : FF := mk [true, true, true, true, true, true, true] 10 b_wrong_part
def b_Joining___init__ : SF := (sSeq (sSet 8 (eCall f_wrong_part [(.nm 1), (.nm 2), (.nm 3), (.nm 4), (.nm 5), (.nm 6), (.nm 7)] []))
    (sSeq (sIf (tPV cNotN (.nm 8)) (sRaise 3 (aCons (eNm 8) aNil)) sNx)
    (sPutF 0 [(4, 0)] (eTup (aCons (eNm 1) (aCons (eNm 2) (aCons (eNm 3) (aCons (eNm 4) (aCons (eNm 5) (aCons (eNm 6) (aCons (eNm 7) aNil)))))))))))
def f_Joining___init__ : FF := mk [true, true, true, true, true, true, true, true] 9 b_Joining___init__
def b__law_plain : SF := (sSeq (sSetT (bTL [(bN 1), (bN 2), (bN 3), (bN 4), (bN 5), (bN 6), (bN 7)]) (eNm 0))
    (sRet (eMake 4 (permF [0, 1, 2, 3, 4, 5, 6, 7] [0, 1, 2, 3, 4, 5, 6, 7] f_Joining___init__) ([(.nm 1), (.nm 2), (.nm 3), (.nm 4), (.nm 5), (.nm 6), (.nm 7)] ++ []) (gP [] [(.str "refuse"), (.str "refuse"), (.str "keep"), (.tup []), (.str "sent")]))))
def f__law_plain : FF := mk [true] 8 b__law_plain
def b__law_by_name : SF := (sSeq (sSetT (bTL [(bN 1), (bN 2), (bN 3), (bN 4), (bN 5), (bN 6), (bN 7)]) (eNm 0))
    (sRet (eMake 4 (permF [0, 7, 6, 5, 4, 3, 2, 1] [0, 7, 6, 5, 4, 3, 2, 1] f_Joining___init__) [(.nm 7), (.nm 6), (.nm 5), (.nm 4), (.nm 3), (.nm 2), (.nm 1)] (gP [] [(.str "refuse"), (.str "refuse"), (.str "keep"), (.tup []), (.str "sent")]))))
def f__law_by_name : FF := mk [true] 8 b__law_by_name
def b__law_made : SF := (sSeq (sSetT (bT [(bN 2), (bN 3), (bN 4)]) (eTup (aCons (eC .non) (aCons (eC .non) (aCons (eC (.bl true)) aNil)))))
    (sSeq (sTry 4 (sSet 2 (eIf (tE (eNm 1)) (eCall f__law_by_name [(.nm 0)] []) (eCall f__law_plain [(.nm 0)] []))) [([3], some 5, (sSeq (sSet 3 (eP1 (xfld 3 0) (.nm 5)))
    (sSet 4 (eAnd (tE (eT (tPV (isaX 4 [0, 1, 2, 3]) (.nm 5)))) (eAnd (tE (eT (tPV (isaX 4 [0, 1, 2, 3]) (.nm 5)))) (eT (tNot (tE (eT (tPV (isaX 4 [1, 2]) (.nm 5)))))))))))])
    (sRet (eTup (aCons (eNm 2) (aCons (eNm 3) (aCons (eNm 4) aNil)))))))
def f__law_made : FF := mk [true, true] 6 b__law_made
def b_Joining___eq__ : SF := (sRet (eAnd (tE (eT (tPV (isaK [4] [4]) (.nm 1)))) (eT (tPV2 (pj2 [(4, 0)] [(4, 0)] cEq) (.nm 0) (.nm 1)))))
def f_Joining___eq__ : FF := mk [true, true] 2 b_Joining___eq__
def b__law_equal_right : SF := (sSeq (sPar2 1 2 (aCons (eCall f__law_plain [(.nm 0)] []) (aCons (eCall f__law_by_name [(.nm 0)] []) aNil)))
    (sSeq (sSet 3 (eLst (aCons (eT (tEqI [4] [(4, f_Joining___eq__)] (.nm 1) (.nm 2))) (aCons (eT (tEqI [4] [(4, f_Joining___eq__)] (.nm 1) (.nm 0))) (aCons (eT (tEqI [4] [(4, f_Joining___eq__)] (.nm 1) (.ev (eC .non)))) (aCons (eT (tPV2 cEq (.ev (eMeth [(4, f_Joining_parts)] (.nm 1) [] [])) (.ev (eMeth [(4, f_Joining_parts)] (.nm 2) [] [])))) aNil))))))
    (sSeq (sIf (tNot (tE (eCall (f__law_same 6) [(.nm 3), (.ev (eLst (aCons (eC (.bl true)) (aCons (eC (.bl false)) (aCons (eC (.bl false)) (aCons (eC (.bl true)) aNil))))))] []))) (sRet (eC (.bl false))) sNx)
    (sSeq (sSet 4 (eLst (aCons (eTup (aCons (eTup (aCons (eC (.str "rather")) aNil)) (aCons (eTup (aCons (eC (.str "other")) aNil)) aNil))) (aCons (eTup (aCons (eTup aNil) (aCons (eTup (aCons (eTup (aCons (eC (.str "rather")) (aCons (eC (.str "keep")) aNil))) aNil)) aNil))) (aCons (eTup (aCons (eC (.str "all")) (aCons (eC (.str "none")) aNil))) (aCons (eTup (aCons (eC (.str "skip")) (aCons (eC (.str "make")) aNil))) aNil))))))
    (sSeq (sSet 4 (eP2 bAdd (.nm 4) (.ev (eLst (aCons (eTup (aCons (eC (.str "keep")) (aCons (eC (.str "drop")) aNil))) (aCons (eTup (aCons (eTup aNil) (aCons (eTup (aCons (eC (.str "rather")) aNil)) aNil))) (aCons (eTup (aCons (eC (.str "sent")) (aCons (eC (.str "all")) aNil))) aNil)))))))
    (sSeq (sFor (iRange1 (eC (.int 7))) (bN 5) (sSeq (sSetT (bT [(bN 6), (bN 7)]) (eP2 ix (.nm 4) (.nm 5)))
    (sSeq (sSet 8 (eIf (tPV2 cEq (.ev (eP2 ix (.nm 0) (.nm 5))) (.nm 6)) (eNm 7) (eNm 6)))
    (sSeq (sSet 9 (eP2 bAdd (.ev (eP2 bAdd (.ev (eSl (.nm 0) none (some (eNm 5)))) (.ev (eTup (aCons (eNm 8) aNil))))) (.ev (eSl (.nm 0) (some (eP2 bAdd (.nm 5) (.ev (eC (.int 1))))) none))))
    (sIf (tNot (tE (eCall (f__law_same 6) [(.ev (eLst (aCons (eT (tEqI [4] [(4, f_Joining___eq__)] (.nm 1) (.ev (eCall f__law_plain [(.nm 9)] [])))) (aCons (eT (tEqI [4] [(4, f_Joining___eq__)] (.ev (eCall f__law_plain [(.nm 9)] [])) (.nm 1))) aNil)))), (.ev (eLst (aCons (eC (.bl false)) (aCons (eC (.bl false)) aNil))))] []))) (sRet (eC (.bl false))) sNx)))))
    (sSeq (sPar2 10 11 (aCons (eP2 ix (.nm 0) (.ev (eC (.int 0)))) (aCons (eP2 ix (.nm 0) (.ev (eC (.int 1)))) aNil)))
    (sSeq (sSet 3 (eLst (aCons (eMeth [(4, f_Joining_parts)] (.ev (eMake 4 (permF [0, 1, 2, 3, 4, 5, 6, 7] [0, 1, 2, 3, 4, 5, 6, 7] f_Joining___init__) ([(.nm 10), (.nm 11)] ++ []) (gP [0, 1, 2, 3, 4] [(.str "refuse"), (.str "refuse"), (.str "keep"), (.tup []), (.str "sent")]))) [] []) (aCons (eMeth [(4, f_Joining_parts)] (.ev (eMake 4 (permF [0, 1, 2, 5, 3, 6, 7, 4] [0, 1, 2, 4, 7, 3, 5, 6] f_Joining___init__) ([(.nm 10), (.nm 11)] ++ [(.ev (eC (.str "make"))), (.ev (eC (.str "all")))]) (gP [0, 2, 3] [(.str "refuse"), (.str "refuse"), (.str "keep"), (.tup []), (.str "sent")]))) [] []) aNil))))
    (sSeq (sSet 12 (eLst (aCons (eTup (aCons (eNm 10) (aCons (eNm 11) (aCons (eC (.str "refuse")) (aCons (eC (.str "refuse")) (aCons (eC (.str "keep")) (aCons (eTup aNil) (aCons (eC (.str "sent")) aNil)))))))) (aCons (eTup (aCons (eNm 10) (aCons (eNm 11) (aCons (eC (.str "refuse")) (aCons (eC (.str "make")) (aCons (eC (.str "keep")) (aCons (eTup aNil) (aCons (eC (.str "all")) aNil)))))))) aNil))))
    (sRet (eCall (f__law_same 6) [(.nm 3), (.nm 12)] [])))))))))))
def f__law_equal_right : FF := mk [true] 13 b__law_equal_right
def b_law : SF := (sSeq (sFor (iRange1 (eP2 fMax2 (.ev (eC (.int 1))) (.ev (eP2 fMin2 (.ev (eC (.int 8))) (.ev (eP1 fLen (.nm 0))))))) (bN 1) (sSeq (sSet 2 (eCall f__law_pot [(.nm 0), (.nm 1)] []))
    (sSeq (sSet 3 (eCall f__law_names [(.nm 2), (.ev (eP2 bAdd (.ev (eC (.int 1))) (.ev (eCall f__law_draw [(.nm 2), (.ev (eC (.int 6)))] []))))] []))
    (sSeq (sSet 4 (eCall f__law_draw [(.nm 2), (.ev (eP2 bAdd (.ev (eP1 fLen (.nm 3))) (.ev (eC (.int 1)))))] []))
    (sSeq (sSet 3 (eIf (tPV2 cEq (.ev (eCall f__law_draw [(.nm 2), (.ev (eC (.int 2)))] [])) (.ev (eC (.int 0)))) (eP2 bAdd (.ev (eP2 bAdd (.ev (eSl (.nm 3) none (some (eNm 4)))) (.ev (eTup (aCons (eC (.str "key")) aNil))))) (.ev (eSl (.nm 3) (some (eNm 4)) none))) (eNm 3)))
    (sSeq (sSet 5 (eCall f__law_parts [(.nm 2), (.nm 3), (.ev (eT (tPV2 cEq (.ev (eCall f__law_draw [(.nm 2), (.ev (eC (.int 3)))] [])) (.ev (eC (.int 0))))))] []))
    (sSeq (sIf (tNot (tE (eCall f__law_equal_right [(.nm 5)] []))) (sRet (eC (.bl false))) sNx)
    (sFor (iRange1 (eC (.int 6))) (bN 6) (sSeq (sSet 7 (eP1 fList (.nm 5)))
    (sSeq (sFor (iRange1 (eCall f__law_draw [(.nm 2), (.ev (eC (.int 4)))] [])) (bN 8) (sSeq (sSet 4 (eCall f__law_draw [(.nm 2), (.ev (eC (.int 7)))] []))
    (sPutL 7 (eNm 4) (eCall f__law_bent [(.nm 2), (.nm 4), (.ev (eP2 ix (.nm 5) (.nm 4)))] []))))
    (sSeq (sSet 9 (eCall f__law_wrong [(.nm 7)] []))
    (sFor (iE (eTup (aCons (eC (.bl false)) (aCons (eC (.bl true)) aNil)))) (bN 10) (sSeq (sSetT (bT [(bN 11), (bN 12), (bN 13)]) (eCall f__law_made [(.nm 7), (.nm 10)] []))
    (sSeq (sIf (tOr (tNot (tE (eNm 13))) (tOr (tNot (tE (eCall (f__law_same 6) [(.nm 12), (.nm 9)] []))) (tPV2 cNe (.ev (eT (tPV cIsN (.nm 11)))) (.ev (eT (tPV cNotN (.nm 9))))))) (sRet (eC (.bl false))) sNx)
    (sIf (tAnd (tPV cIsN (.nm 9)) (tNot (tE (eCall (f__law_same 6) [(.ev (eMeth [(4, f_Joining_parts)] (.nm 11) [] [])), (.ev (eP1 fTuple (.nm 7)))] [])))) (sRet (eC (.bl false))) sNx)))))))))))))))
    (sRet (eC (.bl true))))
def f_law : FF := mk [true] 14 b_law
end Law
set_option Elab.async false
set_option linter.all false
/-! Tr.D4: two own classes told apart, for a row's head. -/
namespace Tr
open PySem
end Tr
set_option Elab.async false
set_option linter.all false
set_option maxRecDepth 100000
set_option maxHeartbeats 4000000
/-! Tr.D5: classes without defaults called with keywords. -/
namespace Tr
open PySem PySem.Spec PyProof.Rows L2
end Tr
set_option Elab.async false
set_option linter.all false
set_option maxRecDepth 100000
set_option maxHeartbeats 4000000
/-! Tr.ZM: zip of a tuple and a list; the pairs have no dict. -/
namespace Tr
open PySem PySem.Spec PyProof.Rows L2
end Tr
set_option Elab.async false
set_option linter.all false
set_option maxRecDepth 100000
set_option maxHeartbeats 4000000
/-! Tr.It: a dict's items walked; the dict is locked meanwhile. -/
namespace Tr
open PySem PySem.Spec PyProof.Rows L2
/-! ### the walk: pairs without a dict -/
/-! ### a frozen dict, bare or locked -/
structure Sw (F : AS) (d : Addr) (kvs : List (Key × V)) (H H2 : Hp) : Prop where
  off : ∀ p, p ≠ d → H2 p = H p
  inF : F d
  h1 : Rd H d (.dK kvs)
  h2 : Rd H2 d (.dK kvs)
theorem Sw.sym {F : AS} {d : Addr} {kvs : List (Key × V)} {H H2 : Hp} (s : Sw F d kvs H H2) : Sw F d kvs H2 H := ⟨fun p n => (s.off p n).symm, s.inF, s.h2, s.h1⟩
section
variable {c : RC} {F F' A : AS} {d : Addr} {kvs : List (Key × V)} {H H2 : Hp}
theorem Sw.some (s : Sw F d kvs H H2) {p : Addr} {o : HO} (h : H p = some o) : ∃ o', H2 p = some o' := by
  by_cases e : p = d
  · subst e
    rcases s.h2 with q | ⟨q0, q⟩ <;> exact ⟨_, q⟩
  · exact ⟨o, by rw [s.off p e]; exact h⟩
theorem Sw.none (s : Sw F d kvs H H2) {p : Addr} (h : H2 p = none) : H p = none := by
  cases q : H p with
  | none => rfl
  | some o => obtain ⟨o', q'⟩ := s.some q; rw [h] at q'; cases q'
end
end Tr
set_option Elab.async false
set_option linter.all false
set_option maxRecDepth 100000
set_option maxHeartbeats 4000000
/-! Tr.It2: comprehensions over x.f.items(), the field a frozen dict. -/
namespace Tr
open PySem PySem.Spec PyProof.Rows L2
section
variable {c : RC} {W : WX} {H : Hp} {F A : AS}
/-- a dict that is locked and stays -/
def DcL (c : RC) (d : Addr) (od : Obj) (ks : List Key) (xs : List PV) (us : List V) (H : Hp) (F : AS) : Prop := H d = some (.frz od (.dK (ks.zip us))) ∧ F d ∧ Rs c H F xs us Emp
theorem DcL.step {d : Addr} {od : Obj} {ks : List Key} {xs : List PV} {us : List V} {H' : Hp} {F' A' : AS} (h : DcL c d od ks xs us H F) (g : Good H F A) (s : Stp H F A H' F' A') : DcL c d od ks xs us H' F' :=
  ⟨s.keep _ _ h.1 fun x => (g.own _ x).1 h.2.1, s.mono _ h.2.1, Rs.step g s h.2.2 Dis.empl⟩
end
end Tr
set_option Elab.async false
set_option linter.all false
set_option maxRecDepth 100000
set_option maxHeartbeats 4000000
/-! Tr.En: enumerate of a tuple or a list; the pairs have no dict. -/
namespace Tr
open PySem PySem.Spec PyProof.Rows L2
end Tr
set_option Elab.async false
set_option linter.all false
set_option maxRecDepth 100000
set_option maxHeartbeats 4000000
/-! Tr.Pop: an item taken out of a list; names of the module that hold tuples of texts. -/
namespace Tr
open PySem PySem.Spec L2
section
variable {c : RC} {H H' : Hp} {F A : AS}
theorem Rs.eraseIdx : ∀ {xs : List PV} {vs : List V} {a : AS} (j : Nat), Rs c H F xs vs a → Rs c H F (xs.eraseIdx j) (vs.eraseIdx j) a
  | [], vs, a, j, h => by rw [show vs = [] from h]; rfl
  | x :: xs, _, a, 0, ⟨v, vs', b, d, e, sb, sd, k, r, rs⟩ => by
    subst e
    exact rs.mono sd
  | x :: xs, _, a, j + 1, ⟨v, vs', b, d, e, sb, sd, k, r, rs⟩ => by
    subst e
    exact ⟨v, vs'.eraseIdx j, b, d, rfl, sb, sd, k, r, rs.eraseIdx j⟩
end
section
variable {X : Cx} {c : RC} {W : WX} {i : Nat} {x : Str} {e : Expr} {f : EF} {pos p apos : Pos}
/-- x.pop(e) -/
theorem e_pop (hK : X.K = c.K) (hv : PE X (.Name x p) (tVar i)) (h : SE X c W e f)
    (hbase : attributeBase (.Name x p) "pop" X.env (eval (.Name x p) X.env) = eval (.Name x p) X.env := by rfl)
    (hfew : ((backTo pos (starEach (e :: []) X.env)).all (fun x => !x.1) && (backToKw pos (keywordEach [] X.env)).all (fun x => x.1.isSome)
      && decide ((e :: ([] : List Expr)).length + ([] : List Keyword).length + (if ([] : List Keyword).isEmpty then 0 else 1) < 30)) = true := by rfl)
    (hline : (apos.endLine == pos.line) = true := by rfl) (hs : starEach (e :: []) X.env = (false, eval e X.env) :: starEach [] X.env := by rfl) (hplain : (backTo pos (starEach [] X.env)).any (·.1) = false := by rfl) :
    SE X c W (.Call (.Attribute (.Name x p) "pop" apos) [e] [] pos) (ePop i f) := by
  refine PE.weak (pe_bm PySem.F.plainAttrs_list PySem.F.slot_list_pop PySem.F.type_list_pop mt_popAt hv (pa_cons h pa_nil hs) hbase hfew hline hs hplain) fun σ H Q q => ?_
  obtain ⟨ρ, F, A, g, re, p⟩ := q
  unfold ePop at p
  cases q : slot ρ i with
  | none => simp only [q] at p; exact p.elim
  | some v =>
    cases v with
    | lst w0 xs0 =>
      simp only [q] at p
      obtain ⟨x0, b0, h1, _, h3⟩ := re.look q
      refine ⟨x0, h1, by rw [hK]; exact tyv_list h3, ?_⟩
      refine tG.next (rel := relE c) (t := Emp) g Sub.emp (Sub.refl _) Dis.empl re p fun v y ρ1 H1 F1 a e g1 _ d r re1 s p1 => ?_
      cases q1 : slot ρ1 i with
      | none => simp only [q1] at p1; exact p1.elim
      | some u =>
        cases u with
        | lst w xs =>
          cases w with
          | true =>
            cases v with
            | int k =>
              simp only [q1] at p1
              cases hj : Tr.ixN xs.length k with
              | none => simp only [hj] at p1; exact p1.elim
              | some j =>
                simp only [hj] at p1
                cases hx : xs[j]? with
                | none => simp only [hx] at p1; exact p1.elim
                | some z =>
                  simp only [hx] at p1
                  split at p1
                  · rename_i fz
                    obtain ⟨x1, bb, dd, k1, k2, k3, k4, k5, k6⟩ := re1.take q1
                    rw [h1] at k1; cases k1
                    obtain ⟨pp, vs, a', rfl, l0, hp, m, n, t, rs⟩ := k5.own
                    cases (show y = V.int k from r)
                    obtain ⟨w, b1, hw, _, rw1⟩ := rs.get hx
                    have rw2 := R.emp rw1 fz
                    obtain ⟨i1, i2, i3, i4⟩ := L2.ixN_seq (show L2.ixN xs.length k = some j from hj)
                    have lb : xs.length ≤ 16777216 := l0
                    refine ⟨pp, vs, k, j, w, rfl, rfl, hp, by omega, by omega, by rw [rs.len]; exact i1, hw, ?_⟩
                    have gg : Good H1 F1 (Uni bb dd) := g1.sub (Sub.uni (k2.trans (Sub.r.trans Sub.r)) (k3.trans (Sub.r.trans Sub.r)))
                    have le : (xs.eraseIdx j).length ≤ big := Nat.le_trans (List.length_eraseIdx_le xs j) l0
                    obtain ⟨s2, g2, e2⟩ := write_slot gg k4 k6 h1 m (b := a') t n (rs.eraseIdx j) le
                    have p2 := Post.sub p1 (show Sub (Uni bb dd) _ from Sub.uni (k2.trans (Sub.r.trans Sub.r)) (k3.trans (Sub.r.trans Sub.r)))
                    exact p2 w _ F1 Emp (Uni bb dd) (s2.drop (Sub.uni Sub.emp (Sub.refl _))) (g2.sub (Sub.uni Sub.emp (Sub.refl _))) Dis.empl (R.step gg s2 rw2 Dis.empl) e2
                  · exact p1.elim
            | _ => simp only [q1] at p1; exact p1.elim
          | false => simp only [q1] at p1; exact p1.elim
        | _ => simp only [q1] at p1; exact p1.elim
    | _ => simp only [q] at p; exact p.elim
end
/-- a name of the module that holds a tuple of texts -/
theorem glob_ktup {c : RC} {h : Heap} {mg : Str → Option Value} {x : Str} {a : Addr} {its : List Value} {n : Nat} {sl : Array (Option Value)} {zs : List Str} (X : c.K.In h) (G : h.Ns mainGlobals mg) (e : PySem.W.nsIn c.K mainGlobals x = some (some (.ref a)))
    (l : c.K.lookup a = some ⟨.type "tuple", none, .seq its.toArray n, sl⟩) (r : Vals (zs.map V.str) its) (hz : zs.all sOk = true) (hl : zs.length ≤ sizeLine) : GlobOk c mg x (.tup (zs.map .str)) := by
  refine ⟨.ref a, .ref a, PySem.W.mg_of X G e, rfl, fun H F => ⟨a, zs.map V.str, rfl, ⟨.inr ⟨_, its.toArray, n, l, ⟨rfl, rfl⟩, rfl, ?_, by simpa using r⟩, by rw [List.length_map]; exact hl⟩, ?_⟩⟩
  · have := r.length
    rw [List.length_map] at this
    rw [List.size_toArray, ← this]; exact hl
  · have go : ∀ zs : List Str, zs.all sOk = true → Rs c H F (zs.map PV.str) (zs.map V.str) Emp := by
      intro zs
      induction zs with
      | nil => intro _; rfl
      | cons z zs ih =>
        intro hz
        rw [List.all_cons, Bool.and_eq_true] at hz
        exact ⟨.str z, zs.map V.str, Emp, Emp, rfl, Sub.emp, Sub.emp, Dis.empl, ⟨rfl, hz.1⟩, ih hz.2⟩
    exact go zs hz
end Tr
set_option Elab.async false
set_option linter.all false
set_option maxRecDepth 100000
set_option maxHeartbeats 4000000
/-! Tr.Sc0: a set of texts as a tracked thing; its comprehension. -/
namespace Tr
open PySem PySem.Spec PyProof.Rows L2 PpSet
/-- the set of the texts ss at D -/
def SetTO (P : Program) (w : World) (D : Addr) (ss : List Str) : HO := .ext fun h => h.SetOf (PySem.strKind P w) D (fun k => ss.any (· == k)) (dcount ss ss.length)
theorem setTO_new {P : Program} {w : World} {H : Hp} {h : Heap} {D : Addr} {ss : List Str} (R : h.SetOf (PySem.strKind P w) D (fun k => ss.any (· == k)) (dcount ss ss.length)) : ObjOk P w H h D (SetTO P w D ss) := by
  have ⟨o, es, ep, t, ho, rest⟩ := R
  exact ⟨R, ⟨o, ho⟩, fun h1 h2 p k => let ⟨o, es, ep, t, ho, rest⟩ := p; ⟨o, es, ep, t, k _ ho, rest⟩⟩
theorem setT_fresh {P : Program} {h : Heap} (w : World) : (h.push { cls := .type "set", dict := none, data := .set #[] 0 (.fresh 0 0 (!w.params.followText "set-order")) }).SetOf (PySem.strKind P w) h.objs.size (fun k => ([] : List Str).any (· == k)) (dcount [] ([] : List Str).length) :=
  PyProof.Rows.SetOf_congr ((PyProof.Rows.setObjOf_fresh (knd := PySem.strKind P w) _).setOf (Heap.get?_push_size (o := set0 w) _ rfl) (by unfold scanBound; omega)) (fun _ => rfl) rfl
section
variable {X : Cx}
/-- set.add of a text -/
theorem addT_ok {pins : List (Addr × Obj)} {σ : L2.St} {H : Hp} {s : Shared} {E : Value → Shared → Prop} {D : Addr} {ss : List Str} {y : Str} {tk : Tok} {Q : Value → Shared → Prop} (I : L2.Inv X pins σ H s) (hD : H D = some (SetTO X.prog X.w D ss)) (room : ss.length + 1 < scanBound)
    (h : ∀ s', L2.Inv X pins σ (upd H D (SetTO X.prog X.w D (ss ++ [y]))) s' → Q .none s') : wpAny (model X.prog X.w) X.A (call (.builtin "set.add") [.ref D, .str y tk]) Q E s := by
  have R : s.heap.SetOf (PySem.strKind X.prog X.w) D (fun k => ss.any (· == k)) (dcount ss ss.length) := (I.hok D _ hD).1
  have le := dcount_le ss ss.length
  refine wpAny_call_entry F.slot_set_add R.typeIs F.entry_set_add ?_ (F.args_set_add_2 _ _)
  unfold Builtin.«set.add» Builtin.Frozenset.oneOther
  simp only [List.isEmpty_nil, bind_assoc]
  unfold Builtin.Frozenset.addrOf setAdd
  refine wpAny_bind (wpAny_pure ?_)
  try dsimp only
  refine wpAny_bind (wpAny_pure ?_)
  try dsimp only
  refine wpAny_bind ?_
  refine wpAny_holding ?_
  refine wpAny_bind ((PySem.strKind X.prog X.w).pyHash (k := y) (strKind_is _ _ _ _) ?_)
  refine wpAny_setAddHashed_of (knd := PySem.strKind X.prog X.w) (s := { s with toks := s.toks + 1 }) (strKind_is _ _ _ _) rfl R (by omega) fun h' sb hS2 => ?_
  have new : h'.SetOf (PySem.strKind X.prog X.w) D (fun k => (ss ++ [y]).any (· == k)) (dcount (ss ++ [y]) (ss ++ [y]).length) := by
    refine PyProof.Rows.SetOf_congr hS2 (fun k => ?_) (by rw [dcount_snoc])
    rw [List.any_append]
    congr 1
    rw [List.any_cons, List.any_nil, Bool.or_false]
    by_cases e : y = k
    · subst e; simp
    · rw [decide_eq_false (fun z => e z.symm)]; simpa using e
  show wpAny _ _ (ret Value.none) _ _ _
  refine wpAny_pure ⟨_, rfl, ?_⟩
  have he : ∃ u, h'.get? D = some u := by
    have ⟨o, _, _, _, ho, _⟩ := new
    exact ⟨o, ho⟩
  exact h _ (I.write (e := D) (t' := s.toks + 1) (by rw [hD]; trivial) (.inl rfl) (fun b u hb hu => (sb.2 b hb).trans hu) he (setTO_new new))
/-- {elt for target in iter if ..}, elt a text: D the new set -/
def tScT (P : Program) (w : World) (wi : TI) (g : TG) (tt : TT) (te : TE) (vs : List Nat) : TE := fun σ H Q => wi σ H fun J H1 => ∀ D, H1 D = none → ∃ W : Nat → Nat → Hp → Prop, (∃ m, W 0 m (upd H1 D (SetTO P w D []))) ∧ ∀ i m H, W i m H →
  (J.stop i H ∧ Q (.ref D) H) ∨ (J.go i H ∧ ∃ Nx : Hp → Prop, (∀ H', Nx H' → ∃ m', m' < m ∧ W (i + 1) m' H') ∧ ∀ x H', J.yld i H x H' → g x (L2.wipe σ vs) H' fun σ2 H2 => L2.wipe σ2 vs = L2.wipe σ vs ∧ tt σ2 H2 fun b H3 =>
    if b = true then te σ2 H3 fun y H4 => ∃ (z : Str) (ss : List Str), y = .str z ∧ H4 D = some (SetTO P w D ss) ∧ ss.length + 1 < scanBound ∧ Nx (upd H4 D (SetTO P w D (ss ++ [z]))) else Nx H3)
/-- a set comprehension's run: what it owes, told over the set's texts -/
theorem scT_run {pins : List (Addr × Obj)} {s : Shared} {σ : L2.St} {H : Hp} {Q : VK} {el tg it : Expr} {ifs : List Expr} {scope : Scope} {own : List (PySem.Str × Nat)} {pos pos' : Pos} {wi : TI} {g : TG} {tt : TT} {te : TE} {Qf : Value → Shared → Prop}
    (hc : X.calm = true) (hN : X.N.Nodup) (I : L2.Inv X pins σ H s) (hi : PI X tg it wi) (ok : BlkOk X.N X.env.scope scope own)
    (hg : ∀ s H C cl fp, PG (X.blk s H scope (compEnvC scope cl C X.env) fp) tg g) (ht : ∀ s H C cl fp, PTs (X.blk s H scope (compEnvC scope cl C X.env) fp) ifs tt) (he : ∀ s H C cl fp, PE (X.blk s H scope (compEnvC scope cl C X.env) fp) el te)
    (fold : ∀ x, foldedSetIterable it X.env x = pure x) (owed : tScT X.prog X.w wi g tt te (own.map (·.2)) σ H Q)
    (fin : ∀ D C s' m H', L2.Inv X pins σ H' s' → Q (.ref D) H' → s'.heap.Ns C m → FpOk X pins H' C → compPost (model X.prog X.w) X.A X.xe none Qf (.ref D) C (.ok .next) s') :
    wpAny (model X.prog X.w) X.A (comprehension (.SetComp el [⟨tg, it, ifs, 0⟩] scope pos) scope X.env pos' (newSet (.type "set")) false (eval it X.env) none) Qf X.xe s := by
  have free : ∀ y ∈ scope.names, y.2 = .free → ∃ c, X.env.cells.lookup y.1 = some c := fun y hy e =>
    (ok.free y hy e).elim (fun k => I.ok.has _ (.inl k)) fun k => I.ok.has _ (.inr k)
  refine wpAny_comprehension_free (use := none) rfl fold (closure_ok free) ok.kind (fun y hy e => by rw [ok.uniq y hy, e]) (thn (hi.run pins s σ H _ I owed) fun _ _ hx => thn hx fun _ s2 h2 => ?_)
  obtain ⟨ia, fp, tn, J, H2, rfl, I2, T, st2, f2, q⟩ := h2
  refine newSet_ok (newEnv_comp ?_)
  obtain ⟨D, hD⟩ : ∃ D, D = s2.heap.objs.size := ⟨_, rfl⟩
  have above : s2.heap.objs.size ≤ D := Nat.le_of_eq hD.symm
  obtain ⟨Wv, ⟨m0, w0⟩, turn⟩ := q D (I2.hok.fresh above)
  obtain ⟨s3, hs3⟩ : ∃ z : Shared, z = { s2 with heap := s2.heap.push { cls := .type "set", dict := none, data := .set #[] 0 (.fresh 0 0 (!X.w.params.followText "set-order")) } } := ⟨_, rfl⟩
  obtain ⟨H3, hH3⟩ : ∃ z, z = upd H2 D (SetTO X.prog X.w D []) := ⟨_, rfl⟩
  rw [← hH3] at w0
  have grown : ∀ b o, s2.heap.get? b = some o → s3.heap.get? b = some o := fun b o e => by rw [hs3]; exact Heap.get?_push_of_some _ e
  have I3 : L2.Inv X pins σ H3 s3 := by
    rw [hH3, hs3]
    refine I2.laid (t' := s2.toks) (fun b o e => Heap.get?_push_of_some _ e) above ?_
    rw [hD]
    exact setTO_new (setT_fresh X.w)
  have size3 : s3.heap.objs.size = s2.heap.objs.size + 1 := by rw [hs3]; exact Heap.size_push ..
  have low : ∀ b ∈ fp, b < s2.heap.objs.size := fun b hb => let ⟨_, e, _⟩ := T.obj _ _ st2 b hb; Heap.lt_size e
  have apart3 : ∀ b ∈ fp, FpOk X pins H3 b ∧ b < s3.heap.objs.size := fun b hb => by
    have hlt := low b hb
    refine ⟨⟨?_, (f2 b hb).2⟩, by rw [size3]; exact Nat.lt_succ_of_lt hlt⟩
    rw [hH3, upd_ne (by rw [hD]; exact Nat.ne_of_lt hlt)]
    exact (f2 b hb).1
  have st3 : tn 0 s3.heap := T.keep _ _ _ st2 fun b _ o e => grown b o e
  have I4 := block_start I3 ok hN apart3
  obtain ⟨cl, hcl⟩ : ∃ z, z = cellsFrom (s3.heap.objs.size + 1) scope.names (cloFrom X.env.cells scope.names []) := ⟨_, rfl⟩
  have pg := hg s3 H3 s3.heap.objs.size cl fp
  have pt := ht s3 H3 s3.heap.objs.size cl fp
  have pe := he s3 H3 s3.heap.objs.size cl fp
  rw [← hs3]
  rw [← hcl] at I4 ⊢
  rw [← hD]
  obtain ⟨ce, hce⟩ : ∃ z, z = compEnvC scope cl s3.heap.objs.size X.env := ⟨_, rfl⟩
  have loc : ce.locals = s3.heap.objs.size := by rw [hce]; rfl
  show codeAny _ _ (.compStart (.SetComp el [⟨tg, it, ifs, 0⟩] scope pos) 0 (.ref ia) (.ref D) (compEnvC scope cl s3.heap.objs.size X.env)) _ _
  rw [← hce] at I4 pg pt pe ⊢
  obtain ⟨s4, hs4⟩ : ∃ z : Shared, z = { s3 with heap := pushCells (s3.heap.push { cls := .type "dict", data := .dict #[] }) scope.names } := ⟨_, rfl⟩
  rw [← hs4] at I4 ⊢
  have st4 : tn 0 s4.heap := T.keep _ _ _ st3 fun b _ o e => by rw [hs4]; exact pushCells_keeps _ _ _ _ (Heap.get?_push_of_some _ e)
  have still : ∀ {σ' : L2.St} {H' : Hp} {s' : Shared}, L2.Inv (X.blk s3 H3 scope ce fp) [] σ' H' s' → (∀ b ∈ fp, H' b = none) → ∀ b ∈ fp, FpOk (X.blk s3 H3 scope ce fp) [] H' b := fun {σ' H' s'} I' hn b hb =>
    ⟨hn b hb, (I'.ok.exf b hb).1, I'.ok.exfs b hb, .inl hb, fun x c e => (I'.ok.exf b hb).2 x c e, fun p hp => absurd (show p ∈ ([] : List (Addr × Obj)) ++ [] from hp) (by simp)⟩
  let At : Nat → Shared → Prop := fun n s' => ∃ i H', L2.Inv (X.blk s3 H3 scope ce fp) [] (L2.wipe σ (own.map (·.2))) H' s' ∧ tn i s'.heap ∧ (∀ b ∈ fp, H' b = none) ∧ Wv i n H'
  refine codeAny_compStart_set (compLoopS_any At ?_ m0 ⟨0, H3, I4, st4, fun b hb => (apart3 b hb).1.1, w0⟩) (T.self X.A 0 _ _ _ st4 (compLoopS_any At ?_ m0 ⟨0, H3, I4, st4, fun b hb => (apart3 b hb).1.1, w0⟩))
  all_goals
    rintro n s5 ⟨i, H5, I5, st5, n5, w5⟩
    rcases turn i n H5 w5 with ⟨stop, qq⟩ | ⟨go, Nx, hNx, step⟩
    · refine thnF (T.done (X.blk s3 H3 scope ce fp) rfl rfl rfl hc i [] s5 _ H5 (fun _ _ => False) I5 (still I5 n5) st5 stop) fun r s6 ⟨hr, I6⟩ => ?_
      subst hr
      have I7 : L2.Inv X pins σ H5 s6 := I3.call' (ch := fp) I6.os I6.base I6.hok I6.bare fun b hb => let z := (apart3 b hb).1.2; ⟨z.2.2.1, z.1, z.2.2.2.1, z.2.2.2.2⟩
      have nC : H5 s3.heap.objs.size = none := by
        have z : H5 ce.locals = none := I6.free
        rwa [loc] at z
      obtain ⟨m, hn, _⟩ := I6.loc
      have hn : s6.heap.Ns ce.locals m := hn
      rw [loc] at hn
      exact fin D s3.heap.objs.size s6 m H5 I7 qq hn (I3.fpOk (Nat.le_refl _) nC)
    · refine thnF (T.item (X.blk s3 H3 scope ce fp) rfl rfl rfl hc i [] s5 _ H5 (fun _ _ => False) I5 (still I5 n5) st5 go) fun r s6 ⟨u, hr, h6⟩ => ?_
      subst hr
      refine thnF h6 fun _ s7 ⟨x, H7, I7, r7, y7, st7, n7⟩ => ?_
      refine thnF (pg.run _ s7 _ H7 x u _ (I7.pinned (still I7 n7) (T.obj _ _ st7)) r7 (step x H7 y7)) fun _ s8 ⟨σ8, H8, I8, hw8, q8⟩ => ?_
      refine thnF (pt.run _ s8 σ8 H8 _ I8 q8) fun b s9 ⟨H9, I9, q9⟩ => ?_
      have next : ∀ {s' : Shared} {H' : Hp}, L2.Inv (X.blk s3 H3 scope ce fp) ([] ++ pinsAt fp s7.heap) σ8 H' s' → Nx H' → ∃ m, m < n ∧ At m s' := fun {s' H'} I' nx => by
        obtain ⟨m', hm, w'⟩ := hNx H' nx
        have pin : ∀ b ∈ fp, ∀ o, s7.heap.get? b = some o → s'.heap.get? b = some o ∧ H' b = none := fun b hb o e =>
          let z := I'.pin (b, o) (List.mem_append_right _ (List.mem_append_right _ (mem_pinsAt hb e))); ⟨z.1, z.2.1⟩
        refine ⟨m', hm, i + 1, H', (I'.unpinned (pins := [])).weak (by rw [← hw8, wipe_length]) (fun j v e => ?_), T.keep _ _ _ st7 fun b hb o e => (pin b hb o e).1, fun b hb => ?_, w'⟩
        · rw [← hw8] at e
          exact (wipe_some e).1
        · obtain ⟨o, e, _⟩ := T.obj _ _ st7 b hb
          exact (pin b hb o e).2
      cases b with
      | false =>
        rw [if_neg Bool.false_ne_true] at q9
        rw [if_neg Bool.false_ne_true]
        exact next I9 q9
      | true =>
        rw [if_pos rfl] at q9
        rw [if_pos rfl]
        refine thnF (pe.run _ s9 σ8 H9 _ I9 q9) fun z s10 ⟨yv, H10, I10, r10, z0, ss0, ey, hD10, hz10, nx⟩ => ?_
        subst ey
        obtain ⟨tz, rfl⟩ := r10
        exact addT_ok (X := X.blk s3 H3 scope ce fp) I10 hD10 hz10 fun s11 I11 => next I11 nx
theorem pe_scT {elt tg iter : Expr} {ifs : List Expr} {scope : Scope} {own : List (PySem.Str × Nat)} {pos : Pos} {wi : TI} {g : TG} {tt : TT} {te : TE} (hc : X.calm = true) (hN : X.N.Nodup) (hi : PI X tg iter wi) (ok : BlkOk X.N X.env.scope scope own)
    (hg : ∀ (s : Shared) (H : Hp) (C : Addr) (cl : List (PySem.Str × Addr)) (fp : List Addr), PG (X.blk s H scope (compEnvC scope cl C X.env) fp) tg g) (ht : ∀ (s : Shared) (H : Hp) (C : Addr) (cl : List (PySem.Str × Addr)) (fp : List Addr), PTs (X.blk s H scope (compEnvC scope cl C X.env) fp) ifs tt)
    (he : ∀ (s : Shared) (H : Hp) (C : Addr) (cl : List (PySem.Str × Addr)) (fp : List Addr), PE (X.blk s H scope (compEnvC scope cl C X.env) fp) elt te) (hs : ∀ x, foldedSetIterable iter X.env x = pure x := by intro _; rfl) :
    PE X (.SetComp elt [⟨tg, iter, ifs, 0⟩] scope pos) (tScT X.prog X.w wi g tt te (own.map (·.2))) := by
  refine ⟨fun pins s σ H Q I h => ?_⟩
  rw [eval_SetComp]
  refine scT_run hc hN I hi ok hg ht he hs h fun D C s' m H' I' q hn f => ⟨m, hn, fun h'' sb => ?_⟩
  obtain ⟨f0, f1, f2, f3, f4, f5⟩ := f
  exact ⟨.ref D, H', I'.turned (t' := s'.toks) (fun b o hb e => (sb.2 b hb).trans e) f0 f1 f3 f4 f5, rfl, q⟩
/-- len of it -/
def tLenSc (P : Program) (w : World) (te : TE) : TE := fun σ H Q => te σ H fun x H1 => ∃ (D : Addr) (ss : List Str), x = .ref D ∧ H1 D = some (SetTO P w D ss) ∧ ss.length < 4000 ∧ Q (.int (dcount ss ss.length : Nat)) H1
theorem pe_lenSc {a : Expr} {ta : TE} {p pos : Pos} (hg : Gl X "len") (hm : X.mg "len" = none) (ha : PE X a ta) (na : starEach [a] X.env = (false, eval a X.env) :: starEach [] X.env := by rfl) : PE X (.Call (.Name "len" p) [a] [] pos) (tLenSc X.prog X.w ta) := by
  refine ⟨fun pins s σ H Q I h => ?_⟩
  refine Call_ (ld_blt I hg hm boot_len ?_)
  refine PyProof.Rows.callWith_builtin1 (PyProof.Rows.args_cons (thn (ha.run pins s σ H _ I h) fun v s1 ⟨x, H1, I1, r1, D, ss, e, hD, l, q1⟩ => PyProof.Rows.args_nil ?_) na) na rfl
  subst e
  cases r1
  obtain ⟨o, es, ep, t, ho, hex, hd, _, _, _, hf, hn⟩ := (I1.hok D _ hD).1
  have := dcount_le ss ss.length
  exact call_len_set ho hex hd hf (by rw [hn]; omega) ⟨.int (dcount ss ss.length : Nat), H1, I1.tok _, ⟨_, by rw [hn]⟩, q1⟩
end
end Tr
set_option Elab.async false
set_option linter.all false
set_option maxRecDepth 100000
set_option maxHeartbeats 4000000
/-! Tr.Sc: len({f for b in w if t}), texts. -/
namespace Tr
open PySem PySem.Spec L2
theorem fcnt_ok {vs : List PV} {ρ : Env} {c : RC} {W : WX} {σ : L2.St} {H : Hp} {F A : AS} {Q : VK} (p : Post c W (relE c) σ H F A (fcnt vs ρ) Q) : ∃ ss, vs = ss.map .str ∧ ss.length < 4000 ∧ Post c W (relE c) σ H F A (.ok (.int (dcount ss ss.length : Nat)) ρ) Q := by
  unfold fcnt at p
  cases q : Tr.allS vs with
  | none => simp only [q] at p; exact p.elim
  | some ss =>
    simp only [q] at p
    split at p
    · rename_i l; exact ⟨ss, allS_eq q, l, p⟩
    · exact p.elim
section
variable {c : RC} {W : WX} {b : BF} {tst : TF} {f : EF} {own : List Nat} {P0 : Program} {w0 : World}
theorem scomp_ok {J : It} {P : Hp → AS → Prop} {xs : List PV} {gv : Env → Env} {σ : L2.St} {Q : VK} (S : Src c J P Emp xs)
    (hgv : ∀ {H : Hp} {F e : AS} {ρ : Env}, P H F → Good H F e → RE c H F ρ (L2.wipe σ own) e → (∀ i ∈ own, slot ρ i = none) → RE c H F (gv ρ) σ e)
    {H : Hp} {F e : AS} {ρ : Env} (p0 : P H F) (g0 : Good H F e) (e0 : RE c H F ρ (L2.wipe σ own) e) (o0 : ∀ i ∈ own, slot ρ i = none)
    (q0 : Post c W (relE c) σ H F e ((compL own b tst f xs ρ).bindB fun vs ρ2 => fcnt vs (gv ρ2)) Q) {D : Addr} (hD : H D = none) :
    ∃ Wv : Nat → Nat → Hp → Prop, (∃ m, Wv 0 m (upd H D (SetTO P0 w0 D []))) ∧ ∀ i m H, Wv i m H →
      (J.stop i H ∧ ∃ (D' : Addr) (ss : List Str), V.ref D = V.ref D' ∧ H D' = some (SetTO P0 w0 D' ss) ∧ ss.length < 4000 ∧ Q (.int (dcount ss ss.length : Nat)) H) ∨ (J.go i H ∧ ∃ Nx : Hp → Prop, (∀ H', Nx H' → ∃ m', m' < m ∧ Wv (i + 1) m' H') ∧ ∀ x H', J.yld i H x H' → tGt c (fxOwn own) b x (L2.wipe σ own) H' fun σ2 H2 => L2.wipe σ2 own = L2.wipe σ own ∧
        tTs c W0 tst σ2 H2 fun d H3 => if d = true then tEx c W0 f σ2 H3 fun y H4 => ∃ (z : Str) (ss : List Str), y = .str z ∧ H4 D = some (SetTO P0 w0 D ss) ∧ ss.length + 1 < scanBound ∧ Nx (upd H4 D (SetTO P0 w0 D (ss ++ [z]))) else Nx H3) := by
  let B : AS := fun q => q = D
  let I : Nat → Hp → Prop := fun i H => ∃ ρ F e ss, P H F ∧ H D = some (SetTO P0 w0 D ss) ∧ Good H F (Uni B e) ∧ Dis B e ∧ RE c H F ρ (L2.wipe σ own) e ∧
    (∀ i ∈ own, slot ρ i = none) ∧ Post c W (relE c) σ H F (Uni B e) ((compL own b tst f (xs.drop i) ρ).bindB fun ws ρ2 => fcnt (ss.map PV.str ++ ws) (gv ρ2)) Q
  refine ⟨fun i m H => m = xs.length - i ∧ i ≤ xs.length ∧ I i H, ⟨xs.length, rfl, Nat.zero_le _, ?_⟩, ?_⟩
  · -- the start
    have sn : Stp H F e (upd H D (SetTO P0 w0 D [])) F (Uni e (fun q => q = D)) := Stp.new hD
    have gn := g0.new hD (o := SetTO P0 w0 D []) (show Mu (SetTO P0 w0 D []) from trivial)
    have nD : ∀ q, e q → q ≠ D := fun q y z => by
      obtain ⟨_, o, eo, _⟩ := g0.own q y
      rw [z, hD] at eo; cases eo
    have sw : Sub (Uni B e) (Uni e (fun q => q = D)) := fun q y => y.elim .inr .inl
    have gE : Good H F Emp := g0.sub Sub.emp
    have sE : Stp H F Emp (upd H D (SetTO P0 w0 D [])) F Emp := Stp.newT hD
    exact ⟨ρ, F, e, [], S.step _ _ _ _ _ _ p0 gE sE Dis.empr, upd_same, gn.sub sw, fun q y z => nD q z y, e0.step gE sE Dis.empr, o0, Post.sub (Post.base q0 sn) sw⟩
  · rintro i m H ⟨rfl, hi, ρ, F, e, ss, p, hacc, g, dB, re, ow, q⟩
    by_cases hlt : i < xs.length
    · have hd : xs.drop i = xs[i] :: xs.drop (i + 1) := List.drop_eq_getElem_cons hlt
      rw [hd, compL] at q
      refine .inr ⟨S.go i H F p hlt, I (i + 1), fun H' h => ⟨xs.length - (i + 1), by omega, rfl, hlt, h⟩, fun x H1 y => ?_⟩
      obtain ⟨s1, rx⟩ := S.yld i H F x H1 xs[i] p (g.sub Sub.emp) y (List.getElem?_eq_getElem hlt)
      cases hb : b xs[i] ρ with
      | none => simp only [hb] at q; exact q.elim
      | some ρ1 =>
        simp only [hb] at q
        have gE : Good H F Emp := g.sub Sub.emp
        have g1E : Good H1 F Emp := ⟨fun _ z => z.elim, fun q z => by
          obtain ⟨o, eo⟩ := g.fro q z
          exact ⟨o, s1.keep q o eo id⟩⟩
        have g1 := g.kept s1 g1E Dis.empr
        have p1 : P H1 F := S.step _ _ _ _ _ _ p gE s1 Dis.empr
        have re1 := re.step gE s1 Dis.empr
        have hacc1 := s1.keep D _ hacc id
        have b1 : Stp H F (Uni B e) H1 F (Uni B e) := ((s1.frame (B := Uni B e)).more (Sub.uni (Sub.refl _) Sub.emp)).drop Sub.l
        have q1 := Post.base q b1
        refine ⟨xs[i], ρ, F, Emp, e, g1.sub (Sub.uni Sub.emp Sub.r), Dis.empl, rx, re1, ρ1, hb, fun σ2 H2 F2 e2 t2 g2 r2 k2 => ⟨(wipe_keep k2).trans (wipe_wipe _ _), ?_⟩⟩
        have dTe' : Dis B (Uni Emp e) := fun q y z => z.elim (fun z => z) (dB q y)
        have gT1 : Good H1 F B := g1.sub Sub.l
        have gT2 := gT1.kept t2 g2 dTe'
        have dT2 := t2.apart gT1 dTe'
        have ge1 : Good H1 F (Uni Emp e) := g1.sub (Sub.uni Sub.emp Sub.r)
        have p2 : P H2 F2 := S.step _ _ _ _ _ _ p1 ge1 t2 Dis.empl
        have hacc2 := t2.keep D _ hacc1 (fun z => dTe' D rfl z)
        have q2 := Post.base q1 ((t2.frame (B := B)).more (show Sub (Uni B (Uni Emp e)) (Uni B e) from Sub.uni Sub.l (Sub.uni Sub.emp Sub.r)))
        have q2' : Post c W (relE c) σ H2 F2 (Uni B e2) ((tst ρ1).bindB fun d ρ2 => ((if d = true then (f ρ2).bindB fun v ρ3 => (compL own b tst f (xs.drop (i + 1)) (wipeE own ρ3)).bindB fun vs ρ4 => .ok (v :: vs) ρ4 else compL own b tst f (xs.drop (i + 1)) (wipeE own ρ2)) : Res (List PV)).bindB fun ws ρ2 => fcnt (ss.map PV.str ++ ws) (gv ρ2)) Q := by
          cases hq : tst ρ1 with
          | ok d ρ2 => simp only [hq, Res.bindB_ok] at q2 ⊢; exact q2
          | er _ _ => simp only [hq] at q2; exact q2.elim
          | bad => simp only [hq] at q2; exact q2.elim
        refine tG.nextB (rel := relB) (t := B) (b := e2) (gT2.uni g2) Sub.l Sub.r dT2 r2 q2' fun d d' ρ2 H3 F3 a3 e3 g3 dT3 d3 rd r3 s3 q3 => ?_
        cases (show d' = d from rd)
        have p3 : P H3 F3 := S.step _ _ _ _ _ _ p2 g2 s3 Dis.empl
        have hacc3 := s3.keep D _ hacc2 (fun z => dT2 D rfl z)
        cases d with
        | false =>
          rw [if_neg Bool.false_ne_true] at q3 ⊢
          have wr := r3.wipes own
          rw [(wipe_keep k2).trans (wipe_wipe _ _)] at wr
          exact ⟨wipeE own ρ2, F3, e3, ss, p3, hacc3, g3.sub (Sub.uni Sub.l (Sub.r.trans Sub.r)), fun q y z => dT3 q y (.inr z), wr, fun i h => wipeE_none own _ i h, Post.sub q3 (Sub.uni Sub.l (Sub.r.trans Sub.r))⟩
        | true =>
          rw [if_pos rfl] at q3 ⊢
          have q3' : Post c W (relE c) σ H3 F3 (Uni B (Uni a3 e3)) ((f ρ2).bindB fun v ρ3 => (compL own b tst f (xs.drop (i + 1)) (wipeE own ρ3)).bindB fun ws ρ2 => fcnt (ss.map PV.str ++ v :: ws) (gv ρ2)) Q := by
            cases hq : f ρ2 with
            | ok v ρ3 =>
              simp only [hq, Res.bindB_ok] at q3 ⊢
              cases hq2 : compL own b tst f (xs.drop (i + 1)) (wipeE own ρ3) with
              | ok ws ρ4 => simp only [hq2, Res.bindB_ok] at q3 ⊢; exact q3
              | er _ _ => simp only [hq2] at q3; exact q3.elim
              | bad => simp only [hq2] at q3; exact q3.elim
            | er _ _ => simp only [hq] at q3; exact q3.elim
            | bad => simp only [hq] at q3; exact q3.elim
          refine tG.nextB (rel := relE c) (t := B) (b := e3) g3 Sub.l (Sub.r.trans Sub.r) (fun q y z => dT3 q y (.inr z)) r3 q3' fun v yv ρ3 H4 F4 a4 e4 g4 dT4 d4 rv r4 s4 q4 => ?_
          have ge3 : Good H3 F3 e3 := g3.sub (Sub.r.trans Sub.r)
          have p4 : P H4 F4 := S.step _ _ _ _ _ _ p3 ge3 s4 Dis.empl
          have hacc4 := s4.keep D _ hacc3 (fun z => dT3 D rfl (.inr z))
          -- the item is a text
          obtain ⟨z, rfl, lz⟩ : ∃ z : Str, v = .str z ∧ ss.length + 1 < 4000 := by
            cases hq2 : compL own b tst f (xs.drop (i + 1)) (wipeE own ρ3) with
            | ok ws ρ4 =>
              rw [hq2, Res.bindB_ok] at q4
              obtain ⟨s9, e9, l9, _⟩ := fcnt_ok q4
              have ea : Tr.allS (ss.map PV.str ++ v :: ws) = some s9 := by rw [e9, allS_strs]
              obtain ⟨x1, x2, f1, f2, rfl⟩ := allS_append ea
              rw [allS_strs] at f1
              cases f1
              have f3 := allS_eq f2
              cases x2 with
              | nil => cases f3
              | cons z x3 =>
                rw [List.map_cons] at f3
                refine ⟨z, (List.cons.inj f3).1, ?_⟩
                rw [List.length_append, List.length_cons] at l9; omega
            | er _ _ => rw [hq2] at q4; exact q4.elim
            | bad => rw [hq2] at q4; exact q4.elim
          obtain ⟨rfl, hz⟩ := rv
          refine ⟨z, ss, rfl, hacc4, by unfold scanBound; omega, ?_⟩
          have inD : Uni B (Uni a4 e4) D := .inl rfl
          have sp : Stp H4 F4 B (upd H4 D (SetTO P0 w0 D (ss ++ [z]))) F4 B := Stp.put rfl
          have gD : Good H4 F4 B := g4.sub Sub.l
          have ne4 : Dis e4 B := fun q y z => dT4 q z (.inr y)
          have wr := (r4.step gD sp ne4).wipes own
          rw [(wipe_keep k2).trans (wipe_wipe _ _)] at wr
          have sw : Sub (Uni B e4) (Uni B (Uni a4 e4)) := Sub.uni Sub.l (Sub.r.trans Sub.r)
          have g5 := g4.put (o := SetTO P0 w0 D (ss ++ [z])) inD (show Mu (SetTO P0 w0 D (ss ++ [z])) from trivial)
          have q5 := Post.sub (Post.base q4 (Stp.put (o := SetTO P0 w0 D (ss ++ [z])) inD)) sw
          refine ⟨wipeE own ρ3, F4, e4, ss ++ [z], S.step _ _ _ _ _ _ p4 gD sp Dis.empl, upd_same, g5.sub sw, fun q y z => dT4 q y (.inr z), wr, fun i h => wipeE_none own _ i h, ?_⟩
          have ea : ∀ ws, (ss ++ [z]).map PV.str ++ ws = ss.map PV.str ++ .str z :: ws := fun ws => by rw [List.map_append, List.append_assoc]; rfl
          simp only [ea]
          exact q5
    · have ei : i = xs.length := by omega
      subst ei
      rw [List.drop_length, compL, Res.bindB_ok, List.append_nil] at q
      refine .inl ⟨S.stop H F p, D, ss, rfl, hacc, ?_⟩
      obtain ⟨s9, e9, l9, q9⟩ := fcnt_ok q
      have : s9 = ss := by
        have := congrArg Tr.allS e9
        rw [allS_strs, allS_strs] at this
        exact (Option.some.inj this).symm
      subst this
      have ge : Good H F e := g.sub Sub.r
      exact ⟨l9, q9.now g Sub.r rfl (hgv p ge re ow)⟩
end
section
variable {X : Cx} {c : RC} {W : WX} {k : Nat} {tg it elt : Expr} {ifs : List Expr} {scope : Scope} {own : List (Str × Nat)} {pos p cpos : Pos} {w : IF} {b : BF} {tst : TF} {f : EF}
theorem e_lenSc (D : Dk X c W k) (hm : X.mg "len" = none) (hg : Gl X "len") (hi : SI X c W tg it w) (B : Blk X c tg elt ifs scope own b tst f) (hs : ∀ x, foldedSetIterable it X.env x = pure x := by intro _; rfl)
    (na : starEach [.SetComp elt [⟨tg, it, ifs, 0⟩] scope pos] X.env = (false, eval (.SetComp elt [⟨tg, it, ifs, 0⟩] scope pos) X.env) :: starEach [] X.env := by rfl) :
    SE X c W (.Call (.Name "len" p) [.SetComp elt [⟨tg, it, ifs, 0⟩] scope pos] [] cpos) (eLenSc (own.map (·.2)) w b tst f) := by
  refine PE.weak (pe_lenSc hg hm (pe_scT D.calm D.nd hi B.ok B.g B.t B.e hs) na) fun σ H Q q => ?_
  refine tG.bind (rel := relS c) q fun xs J ρ1 H1 F1 a e g d r re p Dd hD => ?_
  obtain ⟨P, hp, S⟩ := r
  have ge : Good H1 F1 e := g.sub Sub.r
  have rw' := re.wipes (own.map (·.2))
  refine scomp_ok (c := c) (W := W) (σ := σ) (P := fun H F => P H F ∧ ∀ i v, slot ρ1 i = some v → fro v = true → ∃ x, σ[i]? = some (some x) ∧ R c H F v x Emp) (gv := fun ρ2 => restore (own.map (·.2)) ρ1 ρ2)
    ⟨S.len, fun i H F h => S.go i H F h.1, fun H F h => S.stop H F h.1, fun i H F x H' z h => S.yld i H F x H' z h.1, fun H F A H' F' A' h g s d => ⟨S.step _ _ _ _ _ _ h.1 g s d, fun i v e f => ?_⟩⟩ ?_ ⟨hp, look_emp re⟩ ge rw' (fun i h => wipeE_none _ _ i h) (Post.sub p Sub.r) hD
  · obtain ⟨x, h1, h2⟩ := h.2 i v e f
    exact ⟨x, h1, R.step g s h2 Dis.empl⟩
  · intro H F e ρ hp g re ow
    exact RE.restore hp.2 (re.full ow)
end
end Tr
set_option Elab.async false
set_option linter.all false
set_option maxRecDepth 100000
set_option maxHeartbeats 4000000
/-! Tr.Ne0: x == [], x != [], whatever stands in x. -/
namespace Tr
open PySem PySem.Spec PyProof.Rows L2
section
variable {X : Cx} {c : RC} {W : WX} {a b : Expr} {oa ob : Opd} {pos : Pos}
/-- a list of some items and the empty list -/
def rNil (r : Bool) : R2 := fun x y H Q => ∃ a b u us, x = .ref a ∧ y = .ref b ∧ Rd H a (.lst (u :: us)) ∧ Rd H b (.lst []) ∧ Q (.bl r) H
theorem nil_two {pins : List (Addr × Obj)} {s : Shared} {σ : L2.St} {H : Hp} (I : L2.Inv X pins σ H s) {p q : Addr} {u : V} {us : List V} (ea : Rd H p (.lst (u :: us))) (eb : Rd H q (.lst [])) :
    ∃ x y, s.heap.IsList p x ∧ s.heap.IsList q y ∧ (x.size != y.size) = true := by
  obtain ⟨_, its, n, _, l1, e1⟩ := rd_lst I ea
  obtain ⟨_, its2, n2, _, l2, e2⟩ := rd_lst I eb
  refine ⟨its.toArray, its2.toArray, ⟨_, e1, rfl, n, rfl⟩, ⟨_, e2, rfl, n2, rfl⟩, ?_⟩
  rw [List.size_toArray, List.size_toArray, ← l1, ← l2]; rfl
theorem op_nil_eq (hu : X.A.units < cLine) : OpR X (compareOp .Eq) (rNil false) := by
  intro pins s σ H x y v w Q I rx ry h
  obtain ⟨p, q, u, us, rfl, rfl, ea, eb, f⟩ := h
  obtain rfl : v = Value.ref p := rx
  obtain rfl : w = Value.ref q := ry
  obtain ⟨_, _, i1, i2, hz⟩ := nil_two I ea eb
  exact PySem.SeqAt.eq_list_lengthsAt i1 i2 hz hu (fin_bl I f rfl)
theorem op_nil_ne (hu : X.A.units < cLine) : OpR X (compareOp .NotEq) (rNil true) := by
  intro pins s σ H x y v w Q I rx ry h
  obtain ⟨p, q, u, us, rfl, rfl, ea, eb, f⟩ := h
  obtain rfl : v = Value.ref p := rx
  obtain rfl : w = Value.ref q := ry
  obtain ⟨_, _, i1, i2, hz⟩ := nil_two I ea eb
  exact PySem.SeqAt.RcNeAt.lists_lengths i1 i2 hz hu X.prog X.w _ _ (fin_bl I f rfl)
theorem nil_of {H : Hp} {F A B : AS} {u d : Bool} {v : PV} {xs : List PV} {x y : V} {Q : VK} {r : Bool} (r1 : R c H F (.lst u (v :: xs)) x A) (r2 : R c H F (.lst d []) y B) (q : Q (.bl r) H) : rNil r x y H Q := by
  obtain ⟨p1, vs1, b1, rfl, q1, l1, _, rs1⟩ := r1.lstR
  obtain ⟨p2, vs2, b2, rfl, q2, l2, _, rs2⟩ := r2.lstR
  obtain ⟨w, vs', _, _, e, _⟩ := rs1
  rw [show vs2 = [] from rs2] at q2
  exact ⟨p1, p2, w, vs', rfl, rfl, e ▸ q1, q2, q⟩
theorem k_ne0 : C2 c (fun x y H Q => rNeD c.K x y H Q ∨ rNil true x y H Q) cNe0 := by
  intro v w z x y H F Q A B g r1 r2 k q
  unfold cNe0 at k
  split at k
  · cases k
    exact .inr (nil_of r1 r2 q)
  · exact .inl (k_ne (c := c) v w z x y H F Q A B g r1 r2 k q)
theorem k_eq0 : C2 c (fun x y H Q => rEqD c.K x y H Q ∨ rNil false x y H Q) cEq0 := by
  intro v w z x y H F Q A B g r1 r2 k q
  unfold cEq0 at k
  split at k
  · cases k
    exact .inr (nil_of r1 r2 q)
  · exact .inl (k_eq (c := c) v w z x y H F Q A B g r1 r2 k q)
theorem e_eq0 (D : Ds X c) (ha : SO X c W a oa) (hb : SO X c W b ob) : SE X c W (.Compare a [.Eq] [b] pos) (eT (tPV2 cEq0 oa ob)) := se_cmp ((op_eqD D.un).or (op_nil_eq (by have := D.un; omega))) (by rw [D.K]; exact k_eq0) ha hb (nomark _)
theorem t_ne0 (D : Ds X c) (ha : SO X c W a oa) (hb : SO X c W b ob) : ST X c W (.Compare a [.NotEq] [b] pos) (tPV2 cNe0 oa ob) := st_cmp ((op_neD D.un).or (op_nil_ne (by have := D.un; omega))) (by rw [D.K]; exact k_ne0) ha hb (nomark _)
end
end Tr
set_option Elab.async false
set_option linter.all false
set_option maxRecDepth 100000
set_option maxHeartbeats 4000000
/-! Tr.Dp: dicts in local names: stored to, walked by keys and items; max with a default. -/
namespace Tr
open PySem PySem.Spec PyProof.Rows L2
/-! ### walks -/
section
variable {X : Cx} {c : RC} {W : WX} {k : Nat} {elt kx vx : Expr} {ifs : List Expr} {scope : Scope} {own : List (Str × Nat)} {pos apos cpos p tpos : Pos} {b : BF} {tst : TF} {f gf : EF} {i kk : Nat} {x : Str} {elts : List Expr}
theorem PS.or {e : Stmt} {t t' : TS} (h : PS X e t) (h' : PS X e t') : PS X e (fun D σ H => t D σ H ∨ t' D σ H) := ⟨fun pins s σ H D I q => q.elim (h.run pins s σ H D I) (h'.run pins s σ H D I)⟩
end
/-! ### max with a default -/
end Tr
set_option Elab.async false
set_option linter.all false
set_option maxRecDepth 100000
set_option maxHeartbeats 4000000
/-! Tr.Un: a, b, .. = a tuple or a list. -/
namespace Tr
open PySem PySem.Spec L2
section
variable {X : Cx} {c : RC} {W : WX} {fx : Nat → Bool} {tg : Expr} {ts : List Expr} {b : BF} {bs : List BF} {pos : Pos}
theorem PG.or {t t' : TG} (h : PG X tg t) (h' : PG X tg t') : PG X tg (fun v σ H Q => t v σ H Q ∨ t' v σ H Q) := ⟨fun pins s σ H v u Q I r q => q.elim (h.run pins s σ H v u Q I r) (h'.run pins s σ H v u Q I r)⟩
theorem sg_tl {k : Nat} (hK : X.K = c.K) (hc : X.calm = true) (h : SGs c fx X ts bs) (hn : (assignEach ts X.env).length = bs.length := by rfl) (hst : (assignEach ts X.env).findIdx? (·.1) = none := by rfl) : SG c fx X (.Tuple ts k pos) (bTL bs) := by
  refine PG.weak (PG.or (pg_tup hc h hn hst) (pg_unl hc h hn hst)) fun x σ H Q q => ?_
  obtain ⟨v, ρ, F, a, e, g, d, r, re, ρ', hb, kk⟩ := q
  cases v <;> first | (cases hb; done) | skip
  · obtain ⟨p, vs, rfl, q1, l, rs⟩ := r.tupR
    have hb' : bAll bs _ ρ = some ρ' := hb
    exact .inl ⟨p, vs, rfl, by rw [hK]; exact q1, by rw [rs.len, bAll_len hb'], _, ρ, F, a, e, g, d, rs, re, ρ', hb', kk⟩
  · obtain ⟨p, vs, b', rfl, q1, l, s, rs⟩ := r.lstR
    have hb' : bAll bs _ ρ = some ρ' := hb
    refine .inr ⟨p, vs, rfl, .inl q1, by rw [rs.len, bAll_len hb'], _, ρ, F, b', e, g.sub (Sub.uni (s.trans Sub.l) Sub.r), d.mono s (Sub.refl _), rs, re, ρ', hb', fun σ' H' F' e' t g' r' k' => ?_⟩
    exact kk σ' H' F' e' (t.more (Sub.uni (s.trans Sub.l) Sub.r)) g' r' k'
end
end Tr
set_option Elab.async false
set_option linter.all false
set_option maxRecDepth 100000
set_option maxHeartbeats 4000000
namespace Law
open PySem PySem.Spec L2 Tr
def top (i : Nat) : Stmt := PySem.Challenge.pw_sheetback_k22_joinings_refused.main.body.getD i (.Pass ⟨0, 0, 0, 0⟩)
structure Txt (K : PySem.W.Frag) (mg : Str → Option Value) (c : RC) : Prop where
  hK : K = c.K
  g_BLANKS : GlobOk c mg "BLANKS" (.tup [.str "keep", .str "clear"])
  g_GONE : GlobOk c mg "GONE" (.tup [.str "keep", .str "drop"])
  g_KEY : GlobOk c mg "KEY" (.str "key")
  g_LETTERS : GlobOk c mg "LETTERS" (.str "abcdefghijklmnopqrstuvwxyz")
  g_MANY : GlobOk c mg "MANY" (.tup [.str "all", .str "first", .str "none", .str "refuse"])
  g_NEW : GlobOk c mg "NEW" (.tup [.str "skip", .str "make", .str "refuse"])
  g_SCOPES : GlobOk c mg "SCOPES" (.tup [.str "sent", .str "all"])
  b_ValueError : mg "ValueError" = none
  b_abs : mg "abs" = none
  b_all : mg "all" = none
  b_bool : mg "bool" = none
  b_int : mg "int" = none
  b_isinstance : mg "isinstance" = none
  b_len : mg "len" = none
  b_list : mg "list" = none
  b_max : mg "max" = none
  b_min : mg "min" = none
  b_range : mg "range" = none
  b_set : mg "set" = none
  b_str : mg "str" = none
  b_tuple : mg "tuple" = none
  m_Joining_parts : ∃ f fd, MTx K c 4 "parts" "Joining.parts" (inClass (top 21) 1) ["self"] f fd
  d__law_pot : ∃ f fd, mg "_law_pot" = some (.ref f) ∧ Fun K "_law_pot" "_law_pot" (top 23) f fd ∧ Binds K fd ["_law_script", "_law_at"] []
  d__law_draw : ∃ f fd, mg "_law_draw" = some (.ref f) ∧ Fun K "_law_draw" "_law_draw" (top 24) f fd ∧ Binds K fd ["_law_pot_here", "_law_below"] []
  d__law_names : ∃ f fd, mg "_law_names" = some (.ref f) ∧ Fun K "_law_names" "_law_names" (top 26) f fd ∧ Binds K fd ["_law_pot_here", "_law_many_here"] []
  d__law_some : ∃ f fd, mg "_law_some" = some (.ref f) ∧ Fun K "_law_some" "_law_some" (top 25) f fd ∧ Binds K fd ["_law_pot_here", "_law_things", "_law_many_here"] []
  d__law_parts : ∃ f fd, mg "_law_parts" = some (.ref f) ∧ Fun K "_law_parts" "_law_parts" (top 27) f fd ∧ Binds K fd ["_law_pot_here", "_law_names_here", "_law_with_key"] []
  d__law_is_names : ∃ f fd, mg "_law_is_names" = some (.ref f) ∧ Fun K "_law_is_names" "_law_is_names" (top 28) f fd ∧ Binds K fd ["_law_thing", "_law_with_key"] []
  d__law_is_write : ∃ f fd, mg "_law_is_write" = some (.ref f) ∧ Fun K "_law_is_write" "_law_is_write" (top 29) f fd ∧ Binds K fd ["_law_thing"] []
  d__law_wrong : ∃ f fd, mg "_law_wrong" = some (.ref f) ∧ Fun K "_law_wrong" "_law_wrong" (top 30) f fd ∧ Binds K fd ["_law_parts_here"] []
  d__law_bent : ∃ f fd, mg "_law_bent" = some (.ref f) ∧ Fun K "_law_bent" "_law_bent" (top 31) f fd ∧ Binds K fd ["_law_pot_here", "_law_place", "_law_thing"] []
  d__law_is : ∃ f fd, mg "_law_is" = some (.ref f) ∧ Fun K "_law_is" "_law_is" (top 33) f fd ∧ Binds K fd ["_law_thing", "_law_kind"] []
  d__law_same : ∃ f fd, mg "_law_same" = some (.ref f) ∧ Fun K "_law_same" "_law_same" (top 32) f fd ∧ Binds K fd ["_law_found", "_law_due"] []
  d_is_name : ∃ f fd, mg "is_name" = some (.ref f) ∧ Fun K "is_name" "is_name" (top 8) f fd ∧ Binds K fd ["thing"] []
  d_is_item : ∃ f fd, mg "is_item" = some (.ref f) ∧ Fun K "is_item" "is_item" (top 9) f fd ∧ Binds K fd ["thing"] []
  d_are_distinct : ∃ f fd, mg "are_distinct" = some (.ref f) ∧ Fun K "are_distinct" "are_distinct" (top 10) f fd ∧ Binds K fd ["things"] []
  d_are_items : ∃ f fd, mg "are_items" = some (.ref f) ∧ Fun K "are_items" "are_items" (top 11) f fd ∧ Binds K fd ["thing"] []
  d_is_word : ∃ f fd, mg "is_word" = some (.ref f) ∧ Fun K "is_word" "is_word" (top 18) f fd ∧ Binds K fd ["thing", "words"] []
  d_is_write : ∃ f fd, mg "is_write" = some (.ref f) ∧ Fun K "is_write" "is_write" (top 19) f fd ∧ Binds K fd ["thing"] []
  d_wrong_part : ∃ f fd, mg "wrong_part" = some (.ref f) ∧ Fun K "wrong_part" "wrong_part" (top 20) f fd ∧ Binds K fd ["match", "write", "many", "new", "gone", "guard", "scope"] []
  m_Joining___init__ : ∃ f fd, MTxD K c 4 "__init__" "Joining.__init__" (inClass (top 21) 0) [(.str "refuse"), (.str "refuse"), (.str "keep"), (.tup []), (.str "sent")] f fd
  d__law_plain : ∃ f fd, mg "_law_plain" = some (.ref f) ∧ Fun K "_law_plain" "_law_plain" (top 34) f fd ∧ Binds K fd ["_law_parts_here"] []
  d__law_by_name : ∃ f fd, mg "_law_by_name" = some (.ref f) ∧ Fun K "_law_by_name" "_law_by_name" (top 35) f fd ∧ Binds K fd ["_law_parts_here"] []
  d__law_made : ∃ f fd, mg "_law_made" = some (.ref f) ∧ Fun K "_law_made" "_law_made" (top 36) f fd ∧ Binds K fd ["_law_parts_here", "_law_by_name_here"] []
  m_Joining___eq__ : ∃ f fd, MTx K c 4 "__eq__" "Joining.__eq__" (inClass (top 21) 2) ["self", "other"] f fd
  d__law_equal_right : ∃ f fd, mg "_law_equal_right" = some (.ref f) ∧ Fun K "_law_equal_right" "_law_equal_right" (top 37) f fd ∧ Binds K fd ["_law_parts_here"] []
  d_law : ∃ f fd, mg "law" = some (.ref f) ∧ Fun K "law" "law" (top 38) f fd ∧ Binds K fd ["_law_script"] []
  xg : XG K
  x_SheetError : XT K mg c 0 "SheetError"
  x_NoColumns : XT K mg c 1 "NoColumns"
  x_NoSending : XT K mg c 2 "NoSending"
  x_NoJoining : XT K mg c 3 "NoJoining"
  xall : XAll K mg c 4
  cf_NoSending : c.cF 2 = (["part"] : List Str)
  o_NoSending : OexC K (c.cA 2)
  no_NoSending_part : PySem.W.findIn K (.ref (c.cA 2)) "part" = some none
  i_NoSending : ∃ fI fdI, PySem.W.findIn K (.ref (c.cA 2)) "__init__" = some (some (.ref fI)) ∧ PySem.W.typeIn K (.ref fI) = some (.type "function") ∧ Fun K "__init__" "NoSending.__init__" (inClass (top 3) 0) fI fdI ∧ Binds K fdI ["self", "part"] []
  cf_NoJoining : c.cF 3 = (["part"] : List Str)
  o_NoJoining : OexC K (c.cA 3)
  no_NoJoining_part : PySem.W.findIn K (.ref (c.cA 3)) "part" = some none
  i_NoJoining : ∃ fI fdI, PySem.W.findIn K (.ref (c.cA 3)) "__init__" = some (some (.ref fI)) ∧ PySem.W.typeIn K (.ref fI) = some (.type "function") ∧ Fun K "__init__" "NoJoining.__init__" (inClass (top 4) 0) fI fdI ∧ Binds K fdI ["self", "part"] []
  s_NoColumns : XS K c 4 (.ref (c.cA 1)) [1]
  s_NoJoining : XS K c 4 (.ref (c.cA 3)) [3]
  s_NoSending : XS K c 4 (.ref (c.cA 2)) [2]
  s_SheetError : XS K c 4 (.ref (c.cA 0)) [0, 1, 2, 3]
  s_ValueError : XS K c 4 (.type "ValueError") [0, 1, 2, 3]
  cts : CTs K mg c [4]
  ct_Joining : CT K mg c 4 "Joining"
  cF_Joining : c.cF 4 = (["held_parts"] : List Str)
  mk_Joining : PySem.W.makesIn K (c.cA 4) = true
  kp_Joining : PySem.W.keepIn K (.ref (c.cA 4)) = true
  ns_Joining : PySem.W.noSeq K (c.cA 4) = true
  nf_Joining : ∀ k', ([4] : List Nat).contains k' = true → PySem.W.notFirst K (c.cA 4) (.ref (c.cA k')) = true
  is_Joining : ∀ k', ([4] : List Nat).contains k' = true → PySem.W.kitOne K (.ref (c.cA k')) (.ref (c.cA 4)) = some (([4] : List Nat).contains k')
  fl_held_parts : FdOk K c [(4, 0)] "held_parts"
section
variable {P : Program} {w : World} {K : PySem.W.Frag} {mg : Str → Option Value} {base : Heap} {c : RC}
theorem ok_init_NoJoining (T : Txt K mg c) {f : Addr} {fd : FuncData} (F : Fun K "__init__" "NoJoining.__init__" (inClass (top 4) 0) f fd) : FnOk P w K mg base (L2.CX P w) 1 f fd ["self", "part"] (spI K (c.cA 3) ["part"]) := by
  have sc : FnScope ["self", "part"] ["self", "part"] (defScope (inClass (top 4) 0)) := ⟨rfl, rfl, rfl, by decide +kernel, rfl, by decide +kernel, by decide +kernel⟩
  refine F.okX sc (fun vs H Q E h => ?_) fun cdv A outer s H vs Q E hr h => ⟨_, (pss_one (ps_ost (pv 0) (pv 1))), ?_⟩
  · obtain ⟨a, ys, rfl, hl, _⟩ := h; simpa using hl
  · refine (rd_I1 T.no_NoJoining_part h ?_ fun _ _ q => q)
    obtain ⟨a, ys, rfl, hl, _⟩ := h
    match ys, hl with
    | [_], _ => rfl
theorem sc_Joining_parts : FnScope ["self"] ["self"] (defScope (inClass (top 21) 1)) := ⟨rfl, rfl, rfl, by decide +kernel, rfl, by decide +kernel, by decide +kernel⟩
theorem ok_Joining_parts (T : Txt K mg c) : MDef P w K mg base c 1 4 "parts" "Joining.parts" (inClass (top 21) 1) ["self"] f_Joining_parts := by
  obtain ⟨f, fd, M⟩ := T.m_Joining_parts
  refine ⟨f, fd, M, ok_def (N := ["self"]) (sem := b_Joining_parts) [true] T.hK M.2.2.2.1 sc_Joining_parts rfl (by decide) ?_⟩
  rintro X W ⟨cdv, A, outer, s, H, E, rfl⟩ D
  exact (ss_one (ss_ret (e_fld T.fl_held_parts (so_nm (pv 0)))))
theorem sc__law_pot : FnScope ["_law_script", "_law_at", "_law_cell", "_law_near"] ["_law_script", "_law_at"] (defScope (top 23)) := ⟨rfl, rfl, rfl, by decide +kernel, rfl, by decide +kernel, by decide +kernel⟩
theorem ok__law_pot (T : Txt K mg c) : Def P w K mg base c 1 "_law_pot" (top 23) ["_law_script", "_law_at"] f__law_pot := by
  obtain ⟨f, fd, hm, F, hb⟩ := T.d__law_pot
  refine ⟨f, fd, hm, F, hb, ok_def (N := ["_law_script", "_law_at", "_law_cell", "_law_near"]) (sem := b__law_pot) [true, true] T.hK F sc__law_pot rfl (by decide) ?_⟩
  rintro X W ⟨cdv, A, outer, s, H, E, rfl⟩ D
  exact (ss_cons (ss_set (i := 2) D.nd rfl (by first | exact Or.inl rfl | exact Or.inr rfl) rfl (se_if (t_lt (Dk.s D) (so_nm (pv 1)) (so_ev (e_len (Dk.s D) T.b_len (by rfl) (so_nm (pv 0))))) (e_ix (Dk.s D) (so_nm (pv 0)) (so_nm (pv 1)) (fun _ _ => rfl)) se_int))
    (ss_cons (ss_set (i := 3) D.nd rfl (by first | exact Or.inl rfl | exact Or.inr rfl) rfl (w_mod (Dk.s D) (so_ev (e_int (Dk.s D) T.b_int (by rfl) (so_ev (w_add (Dk.s D) (so_ev (w_add (Dk.s D) (so_ev (w_mul (Dk.s D) (so_nm (pv 2)) (so_ev se_int))) (so_ev (w_mul (Dk.s D) (so_ev se_int) (so_nm (pv 1)))))) (so_ev se_int))))) (so_ev se_int)))
    (ss_one (ss_ret (se_lst (sa_cons (e_max2 D T.b_max (by rfl) (so_ev se_int) (so_ev (w_sub (Dk.s D) (so_ev (e_abs (Dk.s D) T.b_abs (by rfl) (so_nm (pv 2)))) (so_ev (w_pow (Dk.s D) (so_ev se_int) (so_ev se_int)))))) (sa_cons (w_mod (Dk.s D) (so_ev (e_int (Dk.s D) T.b_int (by rfl) (so_nm (pv 2)))) (so_ev se_int)) (sa_cons (se_nm (pv 3)) sa_nil))) (hn := (aCons_len (aCons_len (aCons_len aNil_len)))))))))
theorem sc__law_draw : FnScope ["_law_pot_here", "_law_below", "_law_digit", "_law_step"] ["_law_pot_here", "_law_below"] (defScope (top 24)) := ⟨rfl, rfl, rfl, by decide +kernel, rfl, by decide +kernel, by decide +kernel⟩
theorem ok__law_draw (T : Txt K mg c) : Def P w K mg base c 1 "_law_draw" (top 24) ["_law_pot_here", "_law_below"] f__law_draw := by
  obtain ⟨f, fd, hm, F, hb⟩ := T.d__law_draw
  refine ⟨f, fd, hm, F, hb, ok_def (N := ["_law_pot_here", "_law_below", "_law_digit", "_law_step"]) (sem := b__law_draw) [true, true] T.hK F sc__law_draw rfl (by decide) ?_⟩
  rintro X W ⟨cdv, A, outer, s, H, E, rfl⟩ D
  exact (ss_cons (ss_if (t_gt (Dk.s D) (so_ev (e_ix (Dk.s D) (so_nm (pv 0)) (so_ev se_int) (fun _ _ => rfl))) (so_ev se_int)) (ss_cons (ss_set (i := 2) D.nd rfl (by first | exact Or.inl rfl | exact Or.inr rfl) rfl (w_mod (Dk.s D) (so_ev (e_int (Dk.s D) T.b_int (by rfl) (so_ev (e_ix (Dk.s D) (so_nm (pv 0)) (so_ev se_int) (fun _ _ => rfl))))) (so_nm (pv 1))))
    (ss_cons (ss_putL (pv 0) (w_div (Dk.s D) (so_ev (e_ix (Dk.s D) (so_nm (pv 0)) (so_ev se_int) (fun _ _ => rfl))) (so_nm (pv 1))) se_int)
    (ss_one (ss_ret (se_mv (pv 2)))))) ss_nil)
    (ss_cons (ss_set (i := 3) D.nd rfl (by first | exact Or.inl rfl | exact Or.inr rfl) rfl (w_mod (Dk.s D) (so_ev (e_int (Dk.s D) T.b_int (by rfl) (so_ev (w_add (Dk.s D) (so_ev (w_add (Dk.s D) (so_ev (w_mul (Dk.s D) (so_ev (e_ix (Dk.s D) (so_nm (pv 0)) (so_ev se_int) (fun _ _ => rfl))) (so_ev se_int))) (so_ev (w_mul (Dk.s D) (so_ev (e_ix (Dk.s D) (so_nm (pv 0)) (so_ev se_int) (fun _ _ => rfl))) (so_ev (e_ix (Dk.s D) (so_nm (pv 0)) (so_ev se_int) (fun _ _ => rfl))))))) (so_ev se_int))))) (so_ev se_int)))
    (ss_cons (ss_putL (pv 0) (e_ix (Dk.s D) (so_nm (pv 0)) (so_ev se_int) (fun _ _ => rfl)) se_int)
    (ss_cons (ss_putL (pv 0) (se_nm (pv 3)) se_int)
    (ss_one (ss_ret (w_mod (Dk.s D) (so_ev (w_div (Dk.s D) (so_nm (pv 3)) (so_ev se_int))) (so_nm (pv 1)))))))))
theorem sc__law_names : FnScope ["_law_pot_here", "_law_many_here", "_law_letters", "_law_found", "_law_k", "_law_word", "_law_old", "_law_place", "_law_j", "_law_one"] ["_law_pot_here", "_law_many_here"] (defScope (top 26)) := ⟨rfl, rfl, rfl, by decide +kernel, rfl, by decide +kernel, by decide +kernel⟩
theorem ok__law_names (T : Txt K mg c) : Def P w K mg base c 2 "_law_names" (top 26) ["_law_pot_here", "_law_many_here"] f__law_names := by
  obtain ⟨f, fd, hm, F, hb⟩ := T.d__law_names
  refine ⟨f, fd, hm, F, hb, ok_def (N := ["_law_pot_here", "_law_many_here", "_law_letters", "_law_found", "_law_k", "_law_word", "_law_old", "_law_place", "_law_j", "_law_one"]) (sem := b__law_names) [true, true] T.hK F sc__law_names rfl (by decide) ?_⟩
  rintro X W ⟨cdv, A, outer, s, H, E, rfl⟩ D
  exact (ss_cons (ss_setT (se_tup (sa_cons (e_listS D T.b_list (by rfl) (so_ev (se_str (by decide +kernel)))) (sa_cons (se_lst sa_nil (hn := aNil_len)) sa_nil)) (hn := (aCons_len (aCons_len aNil_len)))) (sg_tup D.K D.calm (sgs_cons (sg_name D.nd rfl (by first | exact Or.inl rfl | exact Or.inr rfl) rfl) (sgs_cons (sg_name D.nd rfl (by first | exact Or.inl rfl | exact Or.inr rfl) rfl) sgs_nil))))
    (ss_cons (ss_for D (si_range1 (by rfl) T.b_range (se_nm (pv 1))) (sg_name D.nd rfl (by first | exact Or.inl rfl | exact Or.inr rfl) rfl) (ss_cons (ss_set (i := 5) D.nd rfl (by first | exact Or.inl rfl | exact Or.inr rfl) rfl (se_join D.K (by decide +kernel) (so_ev (se_comp (own := [("_law_j", 8)]) D.calm D.nd (si_range1 (by rfl) T.b_range (w_add (Dk.s D) (so_ev se_int) (so_ev (e_call D (ok__law_draw T) (by first | decide | exact Nat.le_trans (by decide) (Nat.le_add_right _ _)) (by rfl) (sos_cons (so_nm (pv 0)) (sos_cons (so_ev se_int) sos_nil)) rfl)))) ⟨blkOk_by (by kernel_rfl), (fun s H C cl fp => (sg_name (D.blk s H _ _ fp).nd rfl (by first | exact Or.inl rfl | exact Or.inr rfl) rfl)), (fun s H C cl fp => pts_yes), (fun s H C cl fp => (e_ix (Dk.s (D.blk s H _ _ fp)) (so_nm (pv 2)) (so_ev (e_call (D.blk s H _ _ fp) (ok__law_draw T) (by first | decide | exact Nat.le_trans (by decide) (Nat.le_add_right _ _)) (by rfl) (sos_cons (so_nm (pv 0)) (sos_cons (so_ev se_int) sos_nil)) rfl)) (fun _ _ => rfl)))⟩))))
    (ss_cons (ss_if (SW.st (sw_and (t_ne0 (Dk.s D) (so_nm (pv 3)) (so_ev (se_lst sa_nil (hn := aNil_len)))) (sw_and1 (t_eq (Dk.s D) (so_ev (e_call D (ok__law_draw T) (by first | decide | exact Nat.le_trans (by decide) (Nat.le_add_right _ _)) (by rfl) (sos_cons (so_nm (pv 0)) (sos_cons (so_ev se_int) sos_nil)) rfl)) (so_ev se_int))))) (ss_cons (ss_par2 D.calm D.nd rfl rfl (by decide) rfl rfl rfl rfl (sa_cons (e_ix (Dk.s D) (so_nm (pv 3)) (so_ev (w_neg (Dk.s D) (so_ev se_int))) (fun _ _ => rfl)) (sa_cons (e_call D (ok__law_draw T) (by first | decide | exact Nat.le_trans (by decide) (Nat.le_add_right _ _)) (by rfl) (sos_cons (so_nm (pv 0)) (sos_cons (so_ev (e_len (Dk.s D) T.b_len (by rfl) (so_ev (e_ix (Dk.s D) (so_nm (pv 3)) (so_ev (w_neg (Dk.s D) (so_ev se_int))) (fun _ _ => rfl))))) sos_nil)) rfl) sa_nil)) (by first | rfl | kernel_rfl))
    (ss_one (ss_set (i := 5) D.nd rfl (by first | exact Or.inl rfl | exact Or.inr rfl) rfl (w_add (Dk.s D) (so_ev (w_add (Dk.s D) (so_ev (e_sl (Dk.s D) (so_nm (pv 6)) sb_none (sb_some (se_nm (pv 7))))) (so_ev (e_ix (Dk.s D) (so_nm (pv 2)) (so_ev (e_call D (ok__law_draw T) (by first | decide | exact Nat.le_trans (by decide) (Nat.le_add_right _ _)) (by rfl) (sos_cons (so_nm (pv 0)) (sos_cons (so_ev se_int) sos_nil)) rfl)) (fun _ _ => rfl))))) (so_ev (e_sl (Dk.s D) (so_nm (pv 6)) (sb_some (w_add (Dk.s D) (so_nm (pv 7)) (so_ev se_int))) sb_none)))))) ss_nil)
    (ss_cons (ss_if (SW.st (sw_or (t_in (Dk.s D) (so_nm (pv 5)) (so_nm (pv 3))) (sw_or1 (t_eq (Dk.s D) (so_nm (pv 5)) (so_ev (se_str (by decide +kernel))))))) (ss_one (ss_set (i := 5) D.nd rfl (by first | exact Or.inl rfl | exact Or.inr rfl) rfl (e_ix (Dk.s D) (so_ev (se_compN (own := [("_law_one", 9)]) D.K D.calm D.nd (pv 2) (by decide) ⟨blkOk_by (by kernel_rfl), (fun s H C cl fp => (sg_name (D.blk s H _ _ fp).nd rfl (by first | exact Or.inl rfl | exact Or.inr rfl) rfl)), (fun s H C cl fp => (pts_st (t_ni (Dk.s (D.blk s H _ _ fp)) (so_nm (pv 9)) (so_nm (pv 3))))), (fun s H C cl fp => (se_nm (pv 9)))⟩)) (so_ev (e_call D (ok__law_draw T) (by first | decide | exact Nat.le_trans (by decide) (Nat.le_add_right _ _)) (by rfl) (sos_cons (so_nm (pv 0)) (sos_cons (so_ev se_int) sos_nil)) rfl)) (fun _ _ => rfl)))) ss_nil)
    (ss_one (ss_app D.K (pv 3) (se_nm (pv 5))))))))
    (ss_one (ss_ret (e_tuple (Dk.s D) T.b_tuple (by rfl) (so_nm (pv 3)))))))
theorem sc__law_some : FnScope ["_law_pot_here", "_law_things", "_law_many_here", "_law_pool", "_law_found", "_law_k"] ["_law_pot_here", "_law_things", "_law_many_here"] (defScope (top 25)) := ⟨rfl, rfl, rfl, by decide +kernel, rfl, by decide +kernel, by decide +kernel⟩
theorem ok__law_some (T : Txt K mg c) : Def P w K mg base c 2 "_law_some" (top 25) ["_law_pot_here", "_law_things", "_law_many_here"] f__law_some := by
  obtain ⟨f, fd, hm, F, hb⟩ := T.d__law_some
  refine ⟨f, fd, hm, F, hb, ok_def (N := ["_law_pot_here", "_law_things", "_law_many_here", "_law_pool", "_law_found", "_law_k"]) (sem := b__law_some) [true, true, true] T.hK F sc__law_some rfl (by decide) ?_⟩
  rintro X W ⟨cdv, A, outer, s, H, E, rfl⟩ D
  exact (ss_cons (ss_par2 D.calm D.nd rfl rfl (by decide) rfl rfl rfl rfl (sa_cons (e_list (Dk.s D) T.b_list (by rfl) (so_nm (pv 1))) (sa_cons (se_lst sa_nil (hn := aNil_len)) sa_nil)) (by first | rfl | kernel_rfl))
    (ss_cons (ss_for D (si_range1 (by rfl) T.b_range (e_min2 D T.b_min (by rfl) (so_nm (pv 2)) (so_ev (e_len (Dk.s D) T.b_len (by rfl) (so_nm (pv 3)))))) (sg_name D.nd rfl (by first | exact Or.inl rfl | exact Or.inr rfl) rfl) (ss_one (ss_app D.K (pv 4) (e_pop D.K (pv 3) (e_call D (ok__law_draw T) (by first | decide | exact Nat.le_trans (by decide) (Nat.le_add_right _ _)) (by rfl) (sos_cons (so_nm (pv 0)) (sos_cons (so_ev (e_len (Dk.s D) T.b_len (by rfl) (so_nm (pv 3)))) sos_nil)) rfl)))))
    (ss_one (ss_ret (se_mv (pv 4))))))
theorem sc__law_parts : FnScope ["_law_pot_here", "_law_names_here", "_law_with_key", "_law_plain_here", "_law_by", "_law_place", "_law_to", "_law_which", "_law_unmet", "_law_left", "_law_where", "_law_fresh", "_law_name"] ["_law_pot_here", "_law_names_here", "_law_with_key"] (defScope (top 27)) := ⟨rfl, rfl, rfl, by decide +kernel, rfl, by decide +kernel, by decide +kernel⟩
theorem ok__law_parts (T : Txt K mg c) : Def P w K mg base c 3 "_law_parts" (top 27) ["_law_pot_here", "_law_names_here", "_law_with_key"] f__law_parts := by
  obtain ⟨f, fd, hm, F, hb⟩ := T.d__law_parts
  refine ⟨f, fd, hm, F, hb, ok_def (N := ["_law_pot_here", "_law_names_here", "_law_with_key", "_law_plain_here", "_law_by", "_law_place", "_law_to", "_law_which", "_law_unmet", "_law_left", "_law_where", "_law_fresh", "_law_name"]) (sem := b__law_parts) [true, true, true] T.hK F sc__law_parts rfl (by decide) ?_⟩
  rintro X W ⟨cdv, A, outer, s, H, E, rfl⟩ D
  exact (ss_cons (ss_setCN (j := 3) (own := [("_law_name", 12)]) D.K D.calm D.nd rfl rfl rfl (sw_true rfl rfl rfl (by decide +kernel)) (pv 1) (by decide) ⟨blkOk_by (by kernel_rfl), (fun s H C cl fp => (sg_name (D.blk s H _ _ fp).nd rfl (by first | exact Or.inl rfl | exact Or.inr rfl) rfl)), (fun s H C cl fp => (pts_st (t_ne (Dk.s (D.blk s H _ _ fp)) (so_nm (pv 12)) (so_ev (se_str (by decide +kernel)))))), (fun s H C cl fp => (se_nm (pv 12)))⟩)
    (ss_cons (ss_set (i := 4) D.nd rfl (by first | exact Or.inl rfl | exact Or.inr rfl) rfl (e_call D (ok__law_some T) (by first | decide | exact Nat.le_trans (by decide) (Nat.le_add_right _ _)) (by rfl) (sos_cons (so_nm (pv 0)) (sos_cons (so_nm (pv 1)) (sos_cons (so_ev (w_add (Dk.s D) (so_ev se_int) (so_ev (e_call D (ok__law_draw T) (by first | decide | exact Nat.le_trans (by decide) (Nat.le_add_right _ _)) (by rfl) (sos_cons (so_nm (pv 0)) (sos_cons (so_ev se_int) sos_nil)) rfl)))) sos_nil))) rfl))
    (ss_cons (ss_if (st_val (se_nm (pv 2))) (ss_cons (ss_set (i := 4) D.nd rfl (by first | exact Or.inl rfl | exact Or.inr rfl) rfl (e_call D (ok__law_some T) (by first | decide | exact Nat.le_trans (by decide) (Nat.le_add_right _ _)) (by rfl) (sos_cons (so_nm (pv 0)) (sos_cons (so_nm (pv 3)) (sos_cons (so_ev (e_call D (ok__law_draw T) (by first | decide | exact Nat.le_trans (by decide) (Nat.le_add_right _ _)) (by rfl) (sos_cons (so_nm (pv 0)) (sos_cons (so_ev se_int) sos_nil)) rfl)) sos_nil))) rfl))
    (ss_cons (ss_set (i := 5) D.nd rfl (by first | exact Or.inl rfl | exact Or.inr rfl) rfl (e_call D (ok__law_draw T) (by first | decide | exact Nat.le_trans (by decide) (Nat.le_add_right _ _)) (by rfl) (sos_cons (so_nm (pv 0)) (sos_cons (so_ev (w_add (Dk.s D) (so_ev (e_len (Dk.s D) T.b_len (by rfl) (so_nm (pv 4)))) (so_ev se_int))) sos_nil)) rfl))
    (ss_one (ss_set (i := 4) D.nd rfl (by first | exact Or.inl rfl | exact Or.inr rfl) rfl (w_add (Dk.s D) (so_ev (w_add (Dk.s D) (so_ev (e_sl (Dk.s D) (so_nm (pv 4)) sb_none (sb_some (se_nm (pv 5))))) (so_ev (se_lst (sa_cons (se_str (by decide +kernel)) sa_nil) (hn := (aCons_len aNil_len)))))) (so_ev (e_sl (Dk.s D) (so_nm (pv 4)) (sb_some (se_nm (pv 5))) sb_none))))))) ss_nil)
    (ss_cons (ss_setC (j := 6) (own := [("_law_name", 12)]) D.calm D.nd rfl rfl rfl (sw_true rfl rfl rfl (by decide +kernel)) (si_e D.K (e_call D (ok__law_some T) (by first | decide | exact Nat.le_trans (by decide) (Nat.le_add_right _ _)) (by rfl) (sos_cons (so_nm (pv 0)) (sos_cons (so_nm (pv 3)) (sos_cons (so_ev (e_call D (ok__law_draw T) (by first | decide | exact Nat.le_trans (by decide) (Nat.le_add_right _ _)) (by rfl) (sos_cons (so_nm (pv 0)) (sos_cons (so_ev se_int) sos_nil)) rfl)) sos_nil))) rfl)) ⟨blkOk_by (by kernel_rfl), (fun s H C cl fp => (sg_name (D.blk s H _ _ fp).nd rfl (by first | exact Or.inl rfl | exact Or.inr rfl) rfl)), (fun s H C cl fp => pts_yes), (fun s H C cl fp => (se_tup (sa_cons (se_nm (pv 12)) (sa_cons (e_ix (Dk.s (D.blk s H _ _ fp)) (so_ev (se_lst (sa_cons (se_str (by decide +kernel)) (sa_cons (se_str (by decide +kernel)) sa_nil)) (hn := (aCons_len (aCons_len aNil_len))))) (so_ev (e_call (D.blk s H _ _ fp) (ok__law_draw T) (by first | decide | exact Nat.le_trans (by decide) (Nat.le_add_right _ _)) (by rfl) (sos_cons (so_nm (pv 0)) (sos_cons (so_ev se_int) sos_nil)) rfl)) (fun _ _ => rfl)) sa_nil)) (hn := (aCons_len (aCons_len aNil_len)))))⟩)
    (ss_cons (ss_par2 D.calm D.nd rfl rfl (by decide) rfl rfl rfl rfl (sa_cons (e_ix (Dk.s D) (so_ev (se_lst (sa_cons (se_str (by decide +kernel)) (sa_cons (se_str (by decide +kernel)) (sa_cons (se_str (by decide +kernel)) (sa_cons (se_str (by decide +kernel)) sa_nil)))) (hn := (aCons_len (aCons_len (aCons_len (aCons_len aNil_len))))))) (so_ev (e_call D (ok__law_draw T) (by first | decide | exact Nat.le_trans (by decide) (Nat.le_add_right _ _)) (by rfl) (sos_cons (so_nm (pv 0)) (sos_cons (so_ev se_int) sos_nil)) rfl)) (fun _ _ => rfl)) (sa_cons (e_ix (Dk.s D) (so_ev (se_lst (sa_cons (se_str (by decide +kernel)) (sa_cons (se_str (by decide +kernel)) (sa_cons (se_str (by decide +kernel)) sa_nil))) (hn := (aCons_len (aCons_len (aCons_len aNil_len)))))) (so_ev (e_call D (ok__law_draw T) (by first | decide | exact Nat.le_trans (by decide) (Nat.le_add_right _ _)) (by rfl) (sos_cons (so_nm (pv 0)) (sos_cons (so_ev se_int) sos_nil)) rfl)) (fun _ _ => rfl)) sa_nil)) (by first | rfl | kernel_rfl))
    (ss_cons (ss_par2 D.calm D.nd rfl rfl (by decide) rfl rfl rfl rfl (sa_cons (e_ix (Dk.s D) (so_ev (se_lst (sa_cons (se_str (by decide +kernel)) (sa_cons (se_str (by decide +kernel)) sa_nil)) (hn := (aCons_len (aCons_len aNil_len))))) (so_ev (e_call D (ok__law_draw T) (by first | decide | exact Nat.le_trans (by decide) (Nat.le_add_right _ _)) (by rfl) (sos_cons (so_nm (pv 0)) (sos_cons (so_ev se_int) sos_nil)) rfl)) (fun _ _ => rfl)) (sa_cons (e_ix (Dk.s D) (so_ev (se_lst (sa_cons (se_str (by decide +kernel)) (sa_cons (se_str (by decide +kernel)) sa_nil)) (hn := (aCons_len (aCons_len aNil_len))))) (so_ev (e_call D (ok__law_draw T) (by first | decide | exact Nat.le_trans (by decide) (Nat.le_add_right _ _)) (by rfl) (sos_cons (so_nm (pv 0)) (sos_cons (so_ev se_int) sos_nil)) rfl)) (fun _ _ => rfl)) sa_nil)) (by first | rfl | kernel_rfl))
    (ss_cons (ss_set (i := 11) D.nd rfl (by first | exact Or.inl rfl | exact Or.inr rfl) rfl (e_call D (ok__law_some T) (by first | decide | exact Nat.le_trans (by decide) (Nat.le_add_right _ _)) (by rfl) (sos_cons (so_nm (pv 0)) (sos_cons (so_nm (pv 1)) (sos_cons (so_ev (e_ix (Dk.s D) (so_ev (se_lst (sa_cons se_int (sa_cons se_int (sa_cons se_int (sa_cons se_int sa_nil)))) (hn := (aCons_len (aCons_len (aCons_len (aCons_len aNil_len))))))) (so_ev (e_call D (ok__law_draw T) (by first | decide | exact Nat.le_trans (by decide) (Nat.le_add_right _ _)) (by rfl) (sos_cons (so_nm (pv 0)) (sos_cons (so_ev se_int) sos_nil)) rfl)) (fun _ _ => rfl))) sos_nil))) rfl))
    (ss_one (ss_ret (se_tup (sa_cons (e_tuple (Dk.s D) T.b_tuple (by rfl) (so_nm (pv 4))) (sa_cons (e_tuple (Dk.s D) T.b_tuple (by rfl) (so_nm (pv 6))) (sa_cons (se_nm (pv 7)) (sa_cons (se_nm (pv 8)) (sa_cons (se_nm (pv 9)) (sa_cons (e_tuple (Dk.s D) T.b_tuple (by rfl) (so_nm (pv 11))) (sa_cons (se_nm (pv 10)) sa_nil))))))) (hn := (aCons_len (aCons_len (aCons_len (aCons_len (aCons_len (aCons_len (aCons_len aNil_len))))))))))))))))))
theorem sc__law_is_names : FnScope ["_law_thing", "_law_with_key", "_law_k", "_law_word", "_law_one", "_law_sign"] ["_law_thing", "_law_with_key"] (defScope (top 28)) := ⟨rfl, rfl, rfl, by decide +kernel, rfl, by decide +kernel, by decide +kernel⟩
theorem ok__law_is_names (T : Txt K mg c) : Def P w K mg base c 1 "_law_is_names" (top 28) ["_law_thing", "_law_with_key"] f__law_is_names := by
  obtain ⟨f, fd, hm, F, hb⟩ := T.d__law_is_names
  refine ⟨f, fd, hm, F, hb, ok_def (N := ["_law_thing", "_law_with_key", "_law_k", "_law_word", "_law_one", "_law_sign"]) (sem := b__law_is_names) [true, true] T.hK F sc__law_is_names rfl (by decide) ?_⟩
  rintro X W ⟨cdv, A, outer, s, H, E, rfl⟩ D
  exact (ss_cons (ss_if (SW.st (sw_or (st_not (st_val (e_isa (Dk.s D) .tuple T.b_isinstance (by rfl) T.b_tuple (by rfl) (by decide +kernel) (by decide) (by decide) (so_nm (pv 0))))) (sw_or1 (t_ne0 (Dk.s D) (so_ev (se_compN (own := [("_law_one", 4)]) D.K D.calm D.nd (pv 0) (by decide) ⟨blkOk_by (by kernel_rfl), (fun s H C cl fp => (sg_name (D.blk s H _ _ fp).nd rfl (by first | exact Or.inl rfl | exact Or.inr rfl) rfl)), (fun s H C cl fp => (pts_st (st_not (st_val (e_isa (Dk.s (D.blk s H _ _ fp)) .str T.b_isinstance (by rfl) T.b_str (by rfl) (by decide +kernel) (by decide) (by decide) (so_nm (pv 4))))))), (fun s H C cl fp => (se_nm (pv 4)))⟩)) (so_ev (se_lst sa_nil (hn := aNil_len))))))) (ss_one (ss_ret se_bl)) ss_nil)
    (ss_cons (ss_for D (si_range1 (by rfl) T.b_range (e_len (Dk.s D) T.b_len (by rfl) (so_nm (pv 0)))) (sg_name D.nd rfl (by first | exact Or.inl rfl | exact Or.inr rfl) rfl) (ss_cons (ss_set (i := 3) D.nd rfl (by first | exact Or.inl rfl | exact Or.inr rfl) rfl (e_ix (Dk.s D) (so_nm (pv 0)) (so_nm (pv 2)) (fun _ _ => rfl)))
    (ss_cons (ss_if (SW.st (sw_or (t_in (Dk.s D) (so_nm (pv 3)) (so_ev (e_sl (Dk.s D) (so_nm (pv 0)) sb_none (sb_some (se_nm (pv 2)))))) (sw_or (SW.st (sw_and (t_eq (Dk.s D) (so_nm (pv 3)) (so_ev (se_str (by decide +kernel)))) (sw_and1 (st_not (st_val (se_nm (pv 1))))))) (sw_or (t_lt (Dk.s D) (so_ev (e_len (Dk.s D) T.b_len (by rfl) (so_nm (pv 3)))) (so_ev se_int)) (sw_or1 (t_gt (Dk.s D) (so_ev (e_len (Dk.s D) T.b_len (by rfl) (so_nm (pv 3)))) (so_ev se_int))))))) (ss_one (ss_ret se_bl)) ss_nil)
    (ss_one (ss_if (t_ne0 (Dk.s D) (so_ev (se_comp (own := [("_law_sign", 5)]) D.calm D.nd (si_e D.K (e_listS D T.b_list (by rfl) (so_nm (pv 3)))) ⟨blkOk_by (by kernel_rfl), (fun s H C cl fp => (sg_name (D.blk s H _ _ fp).nd rfl (by first | exact Or.inl rfl | exact Or.inr rfl) rfl)), (fun s H C cl fp => (pts_st (t_ni (Dk.s (D.blk s H _ _ fp)) (so_nm (pv 5)) (so_ev (se_str (by decide +kernel)))))), (fun s H C cl fp => (se_nm (pv 5)))⟩)) (so_ev (se_lst sa_nil (hn := aNil_len)))) (ss_one (ss_ret se_bl)) ss_nil)))))
    (ss_one (ss_ret se_bl))))
theorem sc__law_is_write : FnScope ["_law_thing", "_law_one"] ["_law_thing"] (defScope (top 29)) := ⟨rfl, rfl, rfl, by decide +kernel, rfl, by decide +kernel, by decide +kernel⟩
theorem ok__law_is_write (T : Txt K mg c) : Def P w K mg base c 2 "_law_is_write" (top 29) ["_law_thing"] f__law_is_write := by
  obtain ⟨f, fd, hm, F, hb⟩ := T.d__law_is_write
  refine ⟨f, fd, hm, F, hb, ok_def (N := ["_law_thing", "_law_one"]) (sem := b__law_is_write) [true] T.hK F sc__law_is_write rfl (by decide) ?_⟩
  rintro X W ⟨cdv, A, outer, s, H, E, rfl⟩ D
  exact (ss_cons (ss_if (SW.st (sw_or (st_not (st_val (e_isa (Dk.s D) .tuple T.b_isinstance (by rfl) T.b_tuple (by rfl) (by decide +kernel) (by decide) (by decide) (so_nm (pv 0))))) (sw_or1 (t_ne0 (Dk.s D) (so_ev (se_compN (own := [("_law_one", 1)]) D.K D.calm D.nd (pv 0) (by decide) ⟨blkOk_by (by kernel_rfl), (fun s H C cl fp => (sg_name (D.blk s H _ _ fp).nd rfl (by first | exact Or.inl rfl | exact Or.inr rfl) rfl)), (fun s H C cl fp => (pts_st (SW.st (sw_or (st_not (st_val (e_isa (Dk.s (D.blk s H _ _ fp)) .tuple T.b_isinstance (by rfl) T.b_tuple (by rfl) (by decide +kernel) (by decide) (by decide) (so_nm (pv 1))))) (sw_or1 (t_ne (Dk.s (D.blk s H _ _ fp)) (so_ev (e_len (Dk.s (D.blk s H _ _ fp)) T.b_len (by rfl) (so_nm (pv 1)))) (so_ev se_int))))))), (fun s H C cl fp => (se_nm (pv 1)))⟩)) (so_ev (se_lst sa_nil (hn := aNil_len))))))) (ss_one (ss_ret se_bl)) ss_nil)
    (ss_cons (ss_if (t_ne0 (Dk.s D) (so_ev (se_compN (own := [("_law_one", 1)]) D.K D.calm D.nd (pv 0) (by decide) ⟨blkOk_by (by kernel_rfl), (fun s H C cl fp => (sg_name (D.blk s H _ _ fp).nd rfl (by first | exact Or.inl rfl | exact Or.inr rfl) rfl)), (fun s H C cl fp => (pts_st (SW.st (sw_or (st_not (st_val (e_isa (Dk.s (D.blk s H _ _ fp)) .str T.b_isinstance (by rfl) T.b_str (by rfl) (by decide +kernel) (by decide) (by decide) (so_ev (e_ix (Dk.s (D.blk s H _ _ fp)) (so_nm (pv 1)) (so_ev se_int) (fun _ _ => rfl)))))) (sw_or1 (t_ni (Dk.s (D.blk s H _ _ fp)) (so_ev (e_ix (Dk.s (D.blk s H _ _ fp)) (so_nm (pv 1)) (so_ev se_int) (fun _ _ => rfl))) (so_ev (se_tup (sa_cons (se_str (by decide +kernel)) (sa_cons (se_str (by decide +kernel)) sa_nil)) (hn := (aCons_len (aCons_len aNil_len))))))))))), (fun s H C cl fp => (se_nm (pv 1)))⟩)) (so_ev (se_lst sa_nil (hn := aNil_len)))) (ss_one (ss_ret se_bl)) ss_nil)
    (ss_one (ss_ret (e_call D (ok__law_is_names T) (by first | decide | exact Nat.le_trans (by decide) (Nat.le_add_right _ _)) (by rfl) (sos_cons (so_ev (e_tuple (Dk.s D) T.b_tuple (by rfl) (so_ev (se_compN (own := [("_law_one", 1)]) D.K D.calm D.nd (pv 0) (by decide) ⟨blkOk_by (by kernel_rfl), (fun s H C cl fp => (sg_name (D.blk s H _ _ fp).nd rfl (by first | exact Or.inl rfl | exact Or.inr rfl) rfl)), (fun s H C cl fp => pts_yes), (fun s H C cl fp => (e_ix (Dk.s (D.blk s H _ _ fp)) (so_nm (pv 1)) (so_ev se_int) (fun _ _ => rfl)))⟩)))) (sos_cons (so_ev se_bl) sos_nil)) rfl)))))
theorem sc__law_wrong : FnScope ["_law_parts_here", "_law_by", "_law_to", "_law_which", "_law_unmet", "_law_left", "_law_fresh", "_law_where"] ["_law_parts_here"] (defScope (top 30)) := ⟨rfl, rfl, rfl, by decide +kernel, rfl, by decide +kernel, by decide +kernel⟩
theorem ok__law_wrong (T : Txt K mg c) : Def P w K mg base c 3 "_law_wrong" (top 30) ["_law_parts_here"] f__law_wrong := by
  obtain ⟨f, fd, hm, F, hb⟩ := T.d__law_wrong
  refine ⟨f, fd, hm, F, hb, ok_def (N := ["_law_parts_here", "_law_by", "_law_to", "_law_which", "_law_unmet", "_law_left", "_law_fresh", "_law_where"]) (sem := b__law_wrong) [true] T.hK F sc__law_wrong rfl (by decide) ?_⟩
  rintro X W ⟨cdv, A, outer, s, H, E, rfl⟩ D
  exact (ss_cons (ss_setT (se_nm (pv 0)) (sg_tl D.K D.calm (sgs_cons (sg_name D.nd rfl (by first | exact Or.inl rfl | exact Or.inr rfl) rfl) (sgs_cons (sg_name D.nd rfl (by first | exact Or.inl rfl | exact Or.inr rfl) rfl) (sgs_cons (sg_name D.nd rfl (by first | exact Or.inl rfl | exact Or.inr rfl) rfl) (sgs_cons (sg_name D.nd rfl (by first | exact Or.inl rfl | exact Or.inr rfl) rfl) (sgs_cons (sg_name D.nd rfl (by first | exact Or.inl rfl | exact Or.inr rfl) rfl) (sgs_cons (sg_name D.nd rfl (by first | exact Or.inl rfl | exact Or.inr rfl) rfl) (sgs_cons (sg_name D.nd rfl (by first | exact Or.inl rfl | exact Or.inr rfl) rfl) sgs_nil)))))))))
    (ss_cons (ss_if (SW.st (sw_or (st_not (st_val (e_call D (ok__law_is_names T) (by first | decide | exact Nat.le_trans (by decide) (Nat.le_add_right _ _)) (by rfl) (sos_cons (so_nm (pv 1)) (sos_cons (so_ev se_bl) sos_nil)) rfl))) (sw_or1 (t_eq (Dk.s D) (so_nm (pv 1)) (so_ev (se_tup sa_nil (hn := aNil_len))))))) (ss_one (ss_ret (se_str (by decide +kernel)))) ss_nil)
    (ss_cons (ss_if (st_not (st_val (e_call D (ok__law_is_write T) (by first | decide | exact Nat.le_trans (by decide) (Nat.le_add_right _ _)) (by rfl) (sos_cons (so_nm (pv 2)) sos_nil) rfl))) (ss_one (ss_ret (se_str (by decide +kernel)))) ss_nil)
    (ss_cons (ss_if (SW.st (sw_or (st_not (st_val (e_isa (Dk.s D) .str T.b_isinstance (by rfl) T.b_str (by rfl) (by decide +kernel) (by decide) (by decide) (so_nm (pv 3))))) (sw_or1 (t_ni (Dk.s D) (so_nm (pv 3)) (so_ev (se_tup (sa_cons (se_str (by decide +kernel)) (sa_cons (se_str (by decide +kernel)) (sa_cons (se_str (by decide +kernel)) (sa_cons (se_str (by decide +kernel)) sa_nil)))) (hn := (aCons_len (aCons_len (aCons_len (aCons_len aNil_len))))))))))) (ss_one (ss_ret (se_str (by decide +kernel)))) ss_nil)
    (ss_cons (ss_if (SW.st (sw_or (st_not (st_val (e_isa (Dk.s D) .str T.b_isinstance (by rfl) T.b_str (by rfl) (by decide +kernel) (by decide) (by decide) (so_nm (pv 4))))) (sw_or1 (t_ni (Dk.s D) (so_nm (pv 4)) (so_ev (se_tup (sa_cons (se_str (by decide +kernel)) (sa_cons (se_str (by decide +kernel)) (sa_cons (se_str (by decide +kernel)) sa_nil))) (hn := (aCons_len (aCons_len (aCons_len aNil_len)))))))))) (ss_one (ss_ret (se_str (by decide +kernel)))) ss_nil)
    (ss_cons (ss_if (SW.st (sw_or (st_not (st_val (e_isa (Dk.s D) .str T.b_isinstance (by rfl) T.b_str (by rfl) (by decide +kernel) (by decide) (by decide) (so_nm (pv 5))))) (sw_or1 (t_ni (Dk.s D) (so_nm (pv 5)) (so_ev (se_tup (sa_cons (se_str (by decide +kernel)) (sa_cons (se_str (by decide +kernel)) sa_nil)) (hn := (aCons_len (aCons_len aNil_len))))))))) (ss_one (ss_ret (se_str (by decide +kernel)))) ss_nil)
    (ss_cons (ss_if (st_not (st_val (e_call D (ok__law_is_names T) (by first | decide | exact Nat.le_trans (by decide) (Nat.le_add_right _ _)) (by rfl) (sos_cons (so_nm (pv 6)) (sos_cons (so_ev se_bl) sos_nil)) rfl))) (ss_one (ss_ret (se_str (by decide +kernel)))) ss_nil)
    (ss_one (ss_ret (se_if (SW.st (sw_and (st_val (e_isa (Dk.s D) .str T.b_isinstance (by rfl) T.b_str (by rfl) (by decide +kernel) (by decide) (by decide) (so_nm (pv 7)))) (sw_and1 (t_in (Dk.s D) (so_nm (pv 7)) (so_ev (se_tup (sa_cons (se_str (by decide +kernel)) (sa_cons (se_str (by decide +kernel)) sa_nil)) (hn := (aCons_len (aCons_len aNil_len))))))))) se_non (se_str (by decide +kernel))))))))))))
theorem sc__law_bent : FnScope ["_law_pot_here", "_law_place", "_law_thing", "_law_odd", "_law_word", "_law_k", "_law_some_here", "_law_name", "_law_bads", "_law_bad"] ["_law_pot_here", "_law_place", "_law_thing"] (defScope (top 31)) := ⟨rfl, rfl, rfl, by decide +kernel, rfl, by decide +kernel, by decide +kernel⟩
theorem ok__law_bent (T : Txt K mg c) : Def P w K mg base c 2 "_law_bent" (top 31) ["_law_pot_here", "_law_place", "_law_thing"] f__law_bent := by
  obtain ⟨f, fd, hm, F, hb⟩ := T.d__law_bent
  refine ⟨f, fd, hm, F, hb, ok_def (N := ["_law_pot_here", "_law_place", "_law_thing", "_law_odd", "_law_word", "_law_k", "_law_some_here", "_law_name", "_law_bads", "_law_bad"]) (sem := b__law_bent) [true, true, true] T.hK F sc__law_bent rfl (by decide) ?_⟩
  rintro X W ⟨cdv, A, outer, s, H, E, rfl⟩ D
  exact (ss_cons (ss_set (i := 3) D.nd rfl (by first | exact Or.inl rfl | exact Or.inr rfl) rfl (e_ix (Dk.s D) (so_ev (se_frz (se_lst (sa_cons se_non (sa_cons se_bl (sa_cons se_int (sa_cons se_int (sa_cons (se_str (by decide +kernel)) (sa_cons (se_str (by decide +kernel)) (sa_cons (se_frz (se_lst sa_nil (hn := aNil_len))) (sa_cons (se_frz se_dct0) (sa_cons (se_tup sa_nil (hn := aNil_len)) (sa_cons (se_tup (sa_cons (se_str (by decide +kernel)) sa_nil) (hn := (aCons_len aNil_len))) (sa_cons (se_str (by decide +kernel)) (sa_cons (se_str (by decide +kernel)) (sa_cons (se_str (by decide +kernel)) sa_nil))))))))))))) (hn := (aCons_len (aCons_len (aCons_len (aCons_len (aCons_len (aCons_len (aCons_len (aCons_len (aCons_len (aCons_len (aCons_len (aCons_len (aCons_len aNil_len))))))))))))))))) (so_ev (e_call D (ok__law_draw T) (by first | decide | exact Nat.le_trans (by decide) (Nat.le_add_right _ _)) (by rfl) (sos_cons (so_nm (pv 0)) (sos_cons (so_ev se_int) sos_nil)) rfl)) (fun _ _ => rfl)))
    (ss_cons (ss_if (t_in (Dk.s D) (so_nm (pv 1)) (so_ev (se_tup (sa_cons se_int (sa_cons se_int sa_nil)) (hn := (aCons_len (aCons_len aNil_len)))))) (ss_cons (ss_set (i := 4) D.nd rfl (by first | exact Or.inl rfl | exact Or.inr rfl) rfl (e_ix (Dk.s D) (so_ev (se_frz (se_lst (sa_cons (se_str (by decide +kernel)) (sa_cons (se_str (by decide +kernel)) (sa_cons (se_str (by decide +kernel)) (sa_cons (se_str (by decide +kernel)) (sa_cons (se_str (by decide +kernel)) (sa_cons (se_str (by decide +kernel)) (sa_cons (se_str (by decide +kernel)) (sa_cons (se_str (by decide +kernel)) sa_nil)))))))) (hn := (aCons_len (aCons_len (aCons_len (aCons_len (aCons_len (aCons_len (aCons_len (aCons_len aNil_len)))))))))))) (so_ev (e_call D (ok__law_draw T) (by first | decide | exact Nat.le_trans (by decide) (Nat.le_add_right _ _)) (by rfl) (sos_cons (so_nm (pv 0)) (sos_cons (so_ev se_int) sos_nil)) rfl)) (fun _ _ => rfl)))
    (ss_cons (ss_set (i := 5) D.nd rfl (by first | exact Or.inl rfl | exact Or.inr rfl) rfl (e_call D (ok__law_draw T) (by first | decide | exact Nat.le_trans (by decide) (Nat.le_add_right _ _)) (by rfl) (sos_cons (so_nm (pv 0)) (sos_cons (so_ev (w_add (Dk.s D) (so_ev (e_len (Dk.s D) T.b_len (by rfl) (so_nm (pv 2)))) (so_ev se_int))) sos_nil)) rfl))
    (ss_cons (ss_set (i := 6) D.nd rfl (by first | exact Or.inl rfl | exact Or.inr rfl) rfl (se_lst (sa_cons (se_frz (e_list (Dk.s D) T.b_list (by rfl) (so_nm (pv 2)))) (sa_cons (w_add (Dk.s D) (so_nm (pv 2)) (so_ev (e_sl (Dk.s D) (so_nm (pv 2)) sb_none (sb_some se_int)))) (sa_cons (w_add (Dk.s D) (so_ev (w_add (Dk.s D) (so_ev (e_sl (Dk.s D) (so_nm (pv 2)) sb_none (sb_some (se_nm (pv 5))))) (so_ev (se_tup (sa_cons (se_nm (pv 4)) sa_nil) (hn := (aCons_len aNil_len)))))) (so_ev (e_sl (Dk.s D) (so_nm (pv 2)) (sb_some (se_nm (pv 5))) sb_none))) (sa_cons (w_add (Dk.s D) (so_ev (w_add (Dk.s D) (so_ev (e_sl (Dk.s D) (so_nm (pv 2)) sb_none (sb_some (se_nm (pv 5))))) (so_ev (se_tup (sa_cons (se_nm (pv 3)) sa_nil) (hn := (aCons_len aNil_len)))))) (so_ev (e_sl (Dk.s D) (so_nm (pv 2)) (sb_some (se_nm (pv 5))) sb_none))) (sa_cons (se_nm (pv 3)) sa_nil))))) (hn := (aCons_len (aCons_len (aCons_len (aCons_len (aCons_len aNil_len))))))))
    (ss_one (ss_ret (e_ix (Dk.s D) (so_ev (se_frz (w_add (Dk.s D) (so_nm (pv 6)) (so_ev (se_lst (sa_cons (se_join D.K (by decide +kernel) (so_ev (e_list (Dk.s D) T.b_list (by rfl) (so_nm (pv 2))))) (sa_cons (se_nm (pv 4)) sa_nil)) (hn := (aCons_len (aCons_len aNil_len)))))))) (so_ev (e_call D (ok__law_draw T) (by first | decide | exact Nat.le_trans (by decide) (Nat.le_add_right _ _)) (by rfl) (sos_cons (so_nm (pv 0)) (sos_cons (so_ev se_int) sos_nil)) rfl)) (fun _ _ => rfl))))))) ss_nil)
    (ss_cons (ss_if (t_eq (Dk.s D) (so_nm (pv 1)) (so_ev se_int)) (ss_cons (ss_par2 D.calm D.nd rfl rfl (by decide) rfl rfl rfl rfl (sa_cons (e_call D (ok__law_draw T) (by first | decide | exact Nat.le_trans (by decide) (Nat.le_add_right _ _)) (by rfl) (sos_cons (so_nm (pv 0)) (sos_cons (so_ev (w_add (Dk.s D) (so_ev (e_len (Dk.s D) T.b_len (by rfl) (so_nm (pv 2)))) (so_ev se_int))) sos_nil)) rfl) (sa_cons (e_ix (Dk.s D) (so_ev (se_frz (se_lst (sa_cons (se_str (by decide +kernel)) (sa_cons (se_str (by decide +kernel)) (sa_cons (se_str (by decide +kernel)) (sa_cons (se_str (by decide +kernel)) (sa_cons (se_str (by decide +kernel)) sa_nil))))) (hn := (aCons_len (aCons_len (aCons_len (aCons_len (aCons_len aNil_len))))))))) (so_ev (e_call D (ok__law_draw T) (by first | decide | exact Nat.le_trans (by decide) (Nat.le_add_right _ _)) (by rfl) (sos_cons (so_nm (pv 0)) (sos_cons (so_ev se_int) sos_nil)) rfl)) (fun _ _ => rfl)) sa_nil)) (by first | rfl | kernel_rfl))
    (ss_cons (ss_set (i := 8) D.nd rfl (by first | exact Or.inl rfl | exact Or.inr rfl) rfl (se_lst (sa_cons (se_tup (sa_cons (se_nm (pv 7)) (sa_cons (se_str (by decide +kernel)) sa_nil)) (hn := (aCons_len (aCons_len aNil_len)))) (sa_cons (se_tup (sa_cons (se_nm (pv 7)) (sa_cons (se_str (by decide +kernel)) sa_nil)) (hn := (aCons_len (aCons_len aNil_len)))) (sa_cons (se_tup (sa_cons (se_nm (pv 7)) (sa_cons (se_nm (pv 3)) sa_nil)) (hn := (aCons_len (aCons_len aNil_len)))) (sa_cons (se_tup (sa_cons (se_nm (pv 3)) (sa_cons (se_str (by decide +kernel)) sa_nil)) (hn := (aCons_len (aCons_len aNil_len)))) (sa_cons (se_frz (se_lst (sa_cons (se_nm (pv 7)) (sa_cons (se_str (by decide +kernel)) sa_nil)) (hn := (aCons_len (aCons_len aNil_len))))) (sa_cons (se_tup (sa_cons (se_nm (pv 7)) sa_nil) (hn := (aCons_len aNil_len))) (sa_cons (se_nm (pv 3)) sa_nil))))))) (hn := (aCons_len (aCons_len (aCons_len (aCons_len (aCons_len (aCons_len (aCons_len aNil_len))))))))))
    (ss_cons (ss_set (i := 9) D.nd rfl (by first | exact Or.inl rfl | exact Or.inr rfl) rfl (e_ix (Dk.s D) (so_ev (se_frz (w_add (Dk.s D) (so_nm (pv 8)) (so_ev (se_lst (sa_cons (se_tup (sa_cons (se_nm (pv 7)) (sa_cons (se_str (by decide +kernel)) (sa_cons se_int sa_nil))) (hn := (aCons_len (aCons_len (aCons_len aNil_len))))) (sa_cons (se_nm (pv 7)) sa_nil)) (hn := (aCons_len (aCons_len aNil_len)))))))) (so_ev (e_call D (ok__law_draw T) (by first | decide | exact Nat.le_trans (by decide) (Nat.le_add_right _ _)) (by rfl) (sos_cons (so_nm (pv 0)) (sos_cons (so_ev se_int) sos_nil)) rfl)) (fun _ _ => rfl)))
    (ss_cons (ss_set (i := 6) D.nd rfl (by first | exact Or.inl rfl | exact Or.inr rfl) rfl (se_lst (sa_cons (se_frz (e_list (Dk.s D) T.b_list (by rfl) (so_nm (pv 2)))) (sa_cons (w_add (Dk.s D) (so_nm (pv 2)) (so_ev (e_sl (Dk.s D) (so_nm (pv 2)) sb_none (sb_some se_int)))) (sa_cons (w_add (Dk.s D) (so_ev (w_add (Dk.s D) (so_ev (e_sl (Dk.s D) (so_nm (pv 2)) sb_none (sb_some (se_nm (pv 5))))) (so_ev (se_tup (sa_cons (se_nm (pv 9)) sa_nil) (hn := (aCons_len aNil_len)))))) (so_ev (e_sl (Dk.s D) (so_nm (pv 2)) (sb_some (se_nm (pv 5))) sb_none))) (sa_cons (w_add (Dk.s D) (so_ev (w_add (Dk.s D) (so_ev (e_sl (Dk.s D) (so_nm (pv 2)) sb_none (sb_some (se_nm (pv 5))))) (so_ev (se_tup (sa_cons (se_nm (pv 9)) sa_nil) (hn := (aCons_len aNil_len)))))) (so_ev (e_sl (Dk.s D) (so_nm (pv 2)) (sb_some (w_add (Dk.s D) (so_nm (pv 5)) (so_ev se_int))) sb_none))) (sa_cons (se_nm (pv 3)) sa_nil))))) (hn := (aCons_len (aCons_len (aCons_len (aCons_len (aCons_len aNil_len))))))))
    (ss_one (ss_ret (e_ix (Dk.s D) (so_nm (pv 6)) (so_ev (e_call D (ok__law_draw T) (by first | decide | exact Nat.le_trans (by decide) (Nat.le_add_right _ _)) (by rfl) (sos_cons (so_nm (pv 0)) (sos_cons (so_ev se_int) sos_nil)) rfl)) (fun _ _ => rfl)))))))) ss_nil)
    (ss_one (ss_ret (e_ix (Dk.s D) (so_ev (se_frz (w_add (Dk.s D) (so_ev (se_lst (sa_cons (se_str (by decide +kernel)) (sa_cons (se_str (by decide +kernel)) (sa_cons (se_str (by decide +kernel)) (sa_cons (se_str (by decide +kernel)) (sa_cons (se_str (by decide +kernel)) (sa_cons (se_str (by decide +kernel)) (sa_cons (se_str (by decide +kernel)) (sa_cons (se_str (by decide +kernel)) sa_nil)))))))) (hn := (aCons_len (aCons_len (aCons_len (aCons_len (aCons_len (aCons_len (aCons_len (aCons_len aNil_len))))))))))) (so_ev (w_rep (Dk.s D) (so_ev (se_lst (sa_cons (se_nm (pv 3)) sa_nil) (hn := (aCons_len aNil_len)))) (so_ev se_int)))))) (so_ev (e_call D (ok__law_draw T) (by first | decide | exact Nat.le_trans (by decide) (Nat.le_add_right _ _)) (by rfl) (sos_cons (so_nm (pv 0)) (sos_cons (so_ev se_int) sos_nil)) rfl)) (fun _ _ => rfl)))))))
theorem sc__law_is : FnScope ["_law_thing", "_law_kind"] ["_law_thing", "_law_kind"] (defScope (top 33)) := ⟨rfl, rfl, rfl, by decide +kernel, rfl, by decide +kernel, by decide +kernel⟩
theorem ok__law_is (T : Txt K mg c) : Def P w K mg base c 1 "_law_is" (top 33) ["_law_thing", "_law_kind"] f__law_is := by
  obtain ⟨f, fd, hm, F, hb⟩ := T.d__law_is
  refine ⟨f, fd, hm, F, hb, ok_def (N := ["_law_thing", "_law_kind"]) (sem := b__law_is) [true, true] T.hK F sc__law_is rfl (by decide) ?_⟩
  rintro X W ⟨cdv, A, outer, s, H, E, rfl⟩ D
  exact (ss_cons (ss_if (t_eq (Dk.s D) (so_nm (pv 1)) (so_ev se_int)) (ss_one (ss_ret (e_isa (Dk.s D) .list T.b_isinstance (by rfl) T.b_list (by rfl) (by decide +kernel) (by decide) (by decide) (so_nm (pv 0))))) ss_nil)
    (ss_cons (ss_if (t_eq (Dk.s D) (so_nm (pv 1)) (so_ev se_int)) (ss_one (ss_ret (e_isa (Dk.s D) .tuple T.b_isinstance (by rfl) T.b_tuple (by rfl) (by decide +kernel) (by decide) (by decide) (so_nm (pv 0))))) ss_nil)
    (ss_one (ss_ret (se_if (t_eq (Dk.s D) (so_nm (pv 1)) (so_ev se_int)) (e_isa (Dk.s D) .str T.b_isinstance (by rfl) T.b_str (by rfl) (by decide +kernel) (by decide) (by decide) (so_nm (pv 0))) (e_isa (Dk.s D) .int T.b_isinstance (by rfl) T.b_int (by rfl) (by decide +kernel) (by decide) (by decide) (so_nm (pv 0))))))))
theorem sc__law_same : FnScope ["_law_found", "_law_due", "_law_kinds", "_law_k"] ["_law_found", "_law_due"] (defScope (top 32)) := ⟨rfl, rfl, rfl, by decide +kernel, rfl, by decide +kernel, by decide +kernel⟩
theorem ok__law_same (T : Txt K mg c) : ∀ n, Def P w K mg base c (2 + n) "_law_same" (top 32) ["_law_found", "_law_due"] (f__law_same n)
  | 0 => by
    obtain ⟨f, fd, hm, F, hb⟩ := T.d__law_same
    exact ⟨f, fd, hm, F, hb, fng_bad⟩
  | n + 1 => by
    have IH := ok__law_same T n
    obtain ⟨f, fd, hm, F, hb⟩ := T.d__law_same
    refine ⟨f, fd, hm, F, hb, ok_def (N := ["_law_found", "_law_due", "_law_kinds", "_law_k"]) (sem := b__law_same (f__law_same n)) [true, true] T.hK F sc__law_same rfl (by decide) ?_⟩
    rintro X W ⟨cdv, A, outer, s, H, E, rfl⟩ D
    exact (ss_cons (ss_if (SW.st (sw_or (st_val (e_isa (Dk.s D) .bool T.b_isinstance (by rfl) T.b_bool (by rfl) (by decide +kernel) (by decide) (by decide) (so_nm (pv 0)))) (sw_or1 (st_val (e_isa (Dk.s D) .bool T.b_isinstance (by rfl) T.b_bool (by rfl) (by decide +kernel) (by decide) (by decide) (so_nm (pv 1))))))) (ss_one (ss_ret (se_and (e_isa (Dk.s D) .bool T.b_isinstance (by rfl) T.b_bool (by rfl) (by decide +kernel) (by decide) (by decide) (so_nm (pv 0))) (se_and (e_isa (Dk.s D) .bool T.b_isinstance (by rfl) T.b_bool (by rfl) (by decide +kernel) (by decide) (by decide) (so_nm (pv 1))) (se_one (e_eq (Dk.s D) (so_nm (pv 0)) (so_nm (pv 1)))))))) ss_nil)
    (ss_cons (ss_for D (si_e D.K (se_tup (sa_cons se_int (sa_cons se_int (sa_cons se_int (sa_cons se_int sa_nil)))) (hn := (aCons_len (aCons_len (aCons_len (aCons_len aNil_len))))))) (sg_name D.nd rfl (by first | exact Or.inl rfl | exact Or.inr rfl) rfl) (ss_one (ss_if (t_ne (Dk.s D) (so_ev (e_call D (ok__law_is T) (by first | decide | exact Nat.le_trans (by decide) (Nat.le_add_right _ _)) (by rfl) (sos_cons (so_nm (pv 0)) (sos_cons (so_nm (pv 2)) sos_nil)) rfl)) (so_ev (e_call D (ok__law_is T) (by first | decide | exact Nat.le_trans (by decide) (Nat.le_add_right _ _)) (by rfl) (sos_cons (so_nm (pv 1)) (sos_cons (so_nm (pv 2)) sos_nil)) rfl))) (ss_one (ss_ret se_bl)) ss_nil)))
    (ss_cons (ss_if (st_val (e_isa2 (Dk.s D) .list .tuple T.b_isinstance (by rfl) T.b_list (by rfl) (by decide +kernel) T.b_tuple (by rfl) (by decide +kernel) (by decide) (by decide) (by decide) (by decide) (so_nm (pv 1)))) (ss_cons (ss_if (t_ne (Dk.s D) (so_ev (e_len (Dk.s D) T.b_len (by rfl) (so_nm (pv 0)))) (so_ev (e_len (Dk.s D) T.b_len (by rfl) (so_nm (pv 1))))) (ss_one (ss_ret se_bl)) ss_nil)
    (ss_one (ss_ret (e_eq0 (Dk.s D) (so_ev (se_comp (own := [("_law_k", 3)]) D.calm D.nd (si_range1 (by rfl) T.b_range (e_len (Dk.s D) T.b_len (by rfl) (so_nm (pv 1)))) ⟨blkOk_by (by kernel_rfl), (fun s H C cl fp => (sg_name (D.blk s H _ _ fp).nd rfl (by first | exact Or.inl rfl | exact Or.inr rfl) rfl)), (fun s H C cl fp => (pts_st (st_not (st_val (e_call (D.blk s H _ _ fp) IH (Nat.le_refl _) (by rfl) (sos_cons (so_ev (e_ix (Dk.s (D.blk s H _ _ fp)) (so_nm (pv 0)) (so_nm (pv 3)) (fun _ _ => rfl))) (sos_cons (so_ev (e_ix (Dk.s (D.blk s H _ _ fp)) (so_nm (pv 1)) (so_nm (pv 3)) (fun _ _ => rfl))) sos_nil)) rfl))))), (fun s H C cl fp => (se_nm (pv 3)))⟩)) (so_ev (se_lst sa_nil (hn := aNil_len))))))) ss_nil)
    (ss_one (ss_ret (se_and (e_eq (Dk.s D) (so_ev (e_isN (Dk.s D) (so_nm (pv 0)))) (so_ev (e_isN (Dk.s D) (so_nm (pv 1))))) (se_one (e_eq (Dk.s D) (so_nm (pv 0)) (so_nm (pv 1))))))))))
theorem sc_is_name : FnScope ["thing", "sign"] ["thing"] (defScope (top 8)) := ⟨rfl, rfl, rfl, by decide +kernel, rfl, by decide +kernel, by decide +kernel⟩
theorem ok_is_name (T : Txt K mg c) : Def P w K mg base c 1 "is_name" (top 8) ["thing"] f_is_name := by
  obtain ⟨f, fd, hm, F, hb⟩ := T.d_is_name
  refine ⟨f, fd, hm, F, hb, ok_def (N := ["thing", "sign"]) (sem := b_is_name) [true] T.hK F sc_is_name rfl (by decide) ?_⟩
  rintro X W ⟨cdv, A, outer, s, H, E, rfl⟩ D
  exact (ss_cons (ss_if (SW.st (sw_or (st_not (st_val (e_isa (Dk.s D) .str T.b_isinstance (by rfl) T.b_str (by rfl) (by decide +kernel) (by decide) (by decide) (so_nm (pv 0))))) (sw_or (st_not (t_lele (Dk.s D) (so_ev se_int) (so_ev (e_len (Dk.s D) T.b_len (by rfl) (so_nm (pv 0)))) (so_ev se_int))) (sw_or1 (t_eq (Dk.s D) (so_nm (pv 0)) (so_ev (e_glob T.g_KEY (by rfl)))))))) (ss_one (ss_ret se_bl)) ss_nil)
    (ss_one (ss_ret (e_all D T.b_all (by rfl) (so_ev (se_comp (own := [("sign", 1)]) D.calm D.nd (si_str (se_nm (pv 0))) ⟨blkOk_by (by kernel_rfl), (fun s H C cl fp => (sg_name (D.blk s H _ _ fp).nd rfl (by first | exact Or.inl rfl | exact Or.inr rfl) rfl)), (fun s H C cl fp => pts_yes), (fun s H C cl fp => (e_in (Dk.s (D.blk s H _ _ fp)) (so_nm (pv 1)) (so_ev (e_glob T.g_LETTERS (by rfl)))))⟩))))))
theorem sc_is_item : FnScope ["thing"] ["thing"] (defScope (top 9)) := ⟨rfl, rfl, rfl, by decide +kernel, rfl, by decide +kernel, by decide +kernel⟩
theorem ok_is_item (T : Txt K mg c) : Def P w K mg base c 2 "is_item" (top 9) ["thing"] f_is_item := by
  obtain ⟨f, fd, hm, F, hb⟩ := T.d_is_item
  refine ⟨f, fd, hm, F, hb, ok_def (N := ["thing"]) (sem := b_is_item) [true] T.hK F sc_is_item rfl (by decide) ?_⟩
  rintro X W ⟨cdv, A, outer, s, H, E, rfl⟩ D
  exact (ss_one (ss_ret (se_or (e_call D (ok_is_name T) (by first | decide | exact Nat.le_trans (by decide) (Nat.le_add_right _ _)) (by rfl) (sos_cons (so_nm (pv 0)) sos_nil) rfl) (se_one (se_and (e_isa (Dk.s D) .str T.b_isinstance (by rfl) T.b_str (by rfl) (by decide +kernel) (by decide) (by decide) (so_nm (pv 0))) (se_one (e_eq (Dk.s D) (so_nm (pv 0)) (so_ev (e_glob T.g_KEY (by rfl))))))))))
theorem sc_are_distinct : FnScope ["things"] ["things"] (defScope (top 10)) := ⟨rfl, rfl, rfl, by decide +kernel, rfl, by decide +kernel, by decide +kernel⟩
theorem ok_are_distinct (T : Txt K mg c) : Def P w K mg base c 1 "are_distinct" (top 10) ["things"] f_are_distinct := by
  obtain ⟨f, fd, hm, F, hb⟩ := T.d_are_distinct
  refine ⟨f, fd, hm, F, hb, ok_def (N := ["things"]) (sem := b_are_distinct) [true] T.hK F sc_are_distinct rfl (by decide) ?_⟩
  rintro X W ⟨cdv, A, outer, s, H, E, rfl⟩ D
  exact (ss_one (ss_ret (e_eq (Dk.s D) (so_ev (e_lenSet D T.b_len (by rfl) T.b_set (by rfl) (so_nm (pv 0)))) (so_ev (e_len (Dk.s D) T.b_len (by rfl) (so_nm (pv 0)))))))
theorem sc_are_items : FnScope ["thing", "one"] ["thing"] (defScope (top 11)) := ⟨rfl, rfl, rfl, by decide +kernel, rfl, by decide +kernel, by decide +kernel⟩
theorem ok_are_items (T : Txt K mg c) : Def P w K mg base c 3 "are_items" (top 11) ["thing"] f_are_items := by
  obtain ⟨f, fd, hm, F, hb⟩ := T.d_are_items
  refine ⟨f, fd, hm, F, hb, ok_def (N := ["thing", "one"]) (sem := b_are_items) [true] T.hK F sc_are_items rfl (by decide) ?_⟩
  rintro X W ⟨cdv, A, outer, s, H, E, rfl⟩ D
  exact (ss_one (ss_ret (se_and (e_isa (Dk.s D) .tuple T.b_isinstance (by rfl) T.b_tuple (by rfl) (by decide +kernel) (by decide) (by decide) (so_nm (pv 0))) (se_and (e_all D T.b_all (by rfl) (so_ev (se_compN (own := [("one", 1)]) D.K D.calm D.nd (pv 0) (by decide) ⟨blkOk_by (by kernel_rfl), (fun s H C cl fp => (sg_name (D.blk s H _ _ fp).nd rfl (by first | exact Or.inl rfl | exact Or.inr rfl) rfl)), (fun s H C cl fp => pts_yes), (fun s H C cl fp => (e_call (D.blk s H _ _ fp) (ok_is_item T) (by first | decide | exact Nat.le_trans (by decide) (Nat.le_add_right _ _)) (by rfl) (sos_cons (so_nm (pv 1)) sos_nil) rfl))⟩))) (se_one (e_call D (ok_are_distinct T) (by first | decide | exact Nat.le_trans (by decide) (Nat.le_add_right _ _)) (by rfl) (sos_cons (so_nm (pv 0)) sos_nil) rfl))))))
theorem sc_is_word : FnScope ["thing", "words"] ["thing", "words"] (defScope (top 18)) := ⟨rfl, rfl, rfl, by decide +kernel, rfl, by decide +kernel, by decide +kernel⟩
theorem ok_is_word (T : Txt K mg c) : Def P w K mg base c 1 "is_word" (top 18) ["thing", "words"] f_is_word := by
  obtain ⟨f, fd, hm, F, hb⟩ := T.d_is_word
  refine ⟨f, fd, hm, F, hb, ok_def (N := ["thing", "words"]) (sem := b_is_word) [true, true] T.hK F sc_is_word rfl (by decide) ?_⟩
  rintro X W ⟨cdv, A, outer, s, H, E, rfl⟩ D
  exact (ss_one (ss_ret (se_and (e_isa (Dk.s D) .str T.b_isinstance (by rfl) T.b_str (by rfl) (by decide +kernel) (by decide) (by decide) (so_nm (pv 0))) (se_one (e_in (Dk.s D) (so_nm (pv 0)) (so_nm (pv 1)))))))
theorem sc_is_write : FnScope ["thing", "item", "name", "blank"] ["thing"] (defScope (top 19)) := ⟨rfl, rfl, rfl, by decide +kernel, rfl, by decide +kernel, by decide +kernel⟩
theorem ok_is_write (T : Txt K mg c) : Def P w K mg base c 2 "is_write" (top 19) ["thing"] f_is_write := by
  obtain ⟨f, fd, hm, F, hb⟩ := T.d_is_write
  refine ⟨f, fd, hm, F, hb, ok_def (N := ["thing", "item", "name", "blank"]) (sem := b_is_write) [true] T.hK F sc_is_write rfl (by decide) ?_⟩
  rintro X W ⟨cdv, A, outer, s, H, E, rfl⟩ D
  exact (ss_cons (ss_if (st_not (st_val (e_isa (Dk.s D) .tuple T.b_isinstance (by rfl) T.b_tuple (by rfl) (by decide +kernel) (by decide) (by decide) (so_nm (pv 0))))) (ss_one (ss_ret se_bl)) ss_nil)
    (ss_cons (ss_forN (i := 0) (fx' := (fxAdd (fxOf [true]) 0)) D (pv 0) fxAdd_le fxAdd_at (sg_name D.nd rfl (by first | exact Or.inl rfl | exact Or.inr rfl) rfl) (ss_cons (ss_if (SW.st (sw_or (st_not (st_val (e_isa (Dk.s D) .tuple T.b_isinstance (by rfl) T.b_tuple (by rfl) (by decide +kernel) (by decide) (by decide) (so_nm (pv 1))))) (sw_or1 (t_ne (Dk.s D) (so_ev (e_len (Dk.s D) T.b_len (by rfl) (so_nm (pv 1)))) (so_ev se_int))))) (ss_one (ss_ret se_bl)) ss_nil)
    (ss_one (ss_if (SW.st (sw_or (st_not (st_val (e_call D (ok_is_name T) (by first | decide | exact Nat.le_trans (by decide) (Nat.le_add_right _ _)) (by rfl) (sos_cons (so_ev (e_ix (Dk.s D) (so_nm (pv 1)) (so_ev se_int) (fun _ _ => rfl))) sos_nil) rfl))) (sw_or1 (st_not (st_val (e_call D (ok_is_word T) (by first | decide | exact Nat.le_trans (by decide) (Nat.le_add_right _ _)) (by rfl) (sos_cons (so_ev (e_ix (Dk.s D) (so_nm (pv 1)) (so_ev se_int) (fun _ _ => rfl))) (sos_cons (so_ev (e_glob T.g_BLANKS (by rfl))) sos_nil)) rfl)))))) (ss_one (ss_ret se_bl)) ss_nil))))
    (ss_one (ss_ret (e_eq (Dk.s D) (so_ev (e_lenSc (own := [("name", 2), ("blank", 3)]) D T.b_len (by rfl) (si_e D.K (se_nm (pv 0))) ⟨blkOk_by (by kernel_rfl), (fun s H C cl fp => (sg_tup (D.blk s H _ _ fp).K (D.blk s H _ _ fp).calm (sgs_cons (sg_name (D.blk s H _ _ fp).nd rfl (by first | exact Or.inl rfl | exact Or.inr rfl) rfl) (sgs_cons (sg_name (D.blk s H _ _ fp).nd rfl (by first | exact Or.inl rfl | exact Or.inr rfl) rfl) sgs_nil)))), (fun s H C cl fp => pts_yes), (fun s H C cl fp => (se_nm (pv 2)))⟩)) (so_ev (e_len (Dk.s D) T.b_len (by rfl) (so_nm (pv 0)))))))))
theorem sc_wrong_part : FnScope ["match", "write", "many", "new", "gone", "guard", "scope", "part", "word", "words"] ["match", "write", "many", "new", "gone", "guard", "scope"] (defScope (top 20)) := ⟨rfl, rfl, rfl, by decide +kernel, rfl, by decide +kernel, by decide +kernel⟩
theorem ok_wrong_part (T : Txt K mg c) : Def P w K mg base c 4 "wrong_part" (top 20) ["match", "write", "many", "new", "gone", "guard", "scope"] f_wrong_part := by
  obtain ⟨f, fd, hm, F, hb⟩ := T.d_wrong_part
  refine ⟨f, fd, hm, F, hb, ok_def (N := ["match", "write", "many", "new", "gone", "guard", "scope", "part", "word", "words"]) (sem := b_wrong_part) [true, true, true, true, true, true, true] T.hK F sc_wrong_part rfl (by decide) ?_⟩
  rintro X W ⟨cdv, A, outer, s, H, E, rfl⟩ D
  exact (ss_cons (ss_if (SW.st (sw_or (st_not (st_val (e_call D (ok_are_items T) (by first | decide | exact Nat.le_trans (by decide) (Nat.le_add_right _ _)) (by rfl) (sos_cons (so_nm (pv 0)) sos_nil) rfl))) (sw_or1 (t_eq (Dk.s D) (so_nm (pv 0)) (so_ev (se_tup sa_nil (hn := aNil_len))))))) (ss_one (ss_ret (se_str (by decide +kernel)))) ss_nil)
    (ss_cons (ss_if (st_not (st_val (e_call D (ok_is_write T) (by first | decide | exact Nat.le_trans (by decide) (Nat.le_add_right _ _)) (by rfl) (sos_cons (so_nm (pv 1)) sos_nil) rfl))) (ss_one (ss_ret (se_str (by decide +kernel)))) ss_nil)
    (ss_cons (ss_for D (si_e D.K (se_tup (sa_cons (se_tup (sa_cons (se_str (by decide +kernel)) (sa_cons (se_nm (pv 2)) (sa_cons (e_glob T.g_MANY (by rfl)) sa_nil))) (hn := (aCons_len (aCons_len (aCons_len aNil_len))))) (sa_cons (se_tup (sa_cons (se_str (by decide +kernel)) (sa_cons (se_nm (pv 3)) (sa_cons (e_glob T.g_NEW (by rfl)) sa_nil))) (hn := (aCons_len (aCons_len (aCons_len aNil_len))))) (sa_cons (se_tup (sa_cons (se_str (by decide +kernel)) (sa_cons (se_nm (pv 4)) (sa_cons (e_glob T.g_GONE (by rfl)) sa_nil))) (hn := (aCons_len (aCons_len (aCons_len aNil_len))))) sa_nil))) (hn := (aCons_len (aCons_len (aCons_len aNil_len)))))) (sg_tup D.K D.calm (sgs_cons (sg_name D.nd rfl (by first | exact Or.inl rfl | exact Or.inr rfl) rfl) (sgs_cons (sg_name D.nd rfl (by first | exact Or.inl rfl | exact Or.inr rfl) rfl) (sgs_cons (sg_name D.nd rfl (by first | exact Or.inl rfl | exact Or.inr rfl) rfl) sgs_nil)))) (ss_one (ss_if (st_not (st_val (e_call D (ok_is_word T) (by first | decide | exact Nat.le_trans (by decide) (Nat.le_add_right _ _)) (by rfl) (sos_cons (so_nm (pv 8)) (sos_cons (so_nm (pv 9)) sos_nil)) rfl))) (ss_one (ss_ret (se_mv (pv 7)))) ss_nil)))
    (ss_cons (ss_if (st_not (st_val (e_call D (ok_are_items T) (by first | decide | exact Nat.le_trans (by decide) (Nat.le_add_right _ _)) (by rfl) (sos_cons (so_nm (pv 5)) sos_nil) rfl))) (ss_one (ss_ret (se_str (by decide +kernel)))) ss_nil)
    (ss_one (ss_ret (se_if (st_val (e_call D (ok_is_word T) (by first | decide | exact Nat.le_trans (by decide) (Nat.le_add_right _ _)) (by rfl) (sos_cons (so_nm (pv 6)) (sos_cons (so_ev (e_glob T.g_SCOPES (by rfl))) sos_nil)) rfl)) se_non (se_str (by decide +kernel)))))))))
theorem sc_Joining___init__ : FnScope ["self", "match", "write", "many", "new", "gone", "guard", "scope", "part"] ["self", "match", "write", "many", "new", "gone", "guard", "scope"] (defScope (inClass (top 21) 0)) := ⟨rfl, rfl, rfl, by decide +kernel, rfl, by decide +kernel, by decide +kernel⟩
theorem ok_Joining___init__ (T : Txt K mg c) : MDefD P w K mg base c 5 4 "__init__" "Joining.__init__" (inClass (top 21) 0) ["self", "match", "write", "many", "new", "gone", "guard", "scope"] [(.str "refuse"), (.str "refuse"), (.str "keep"), (.tup []), (.str "sent")] f_Joining___init__ := by
  obtain ⟨f, fd, a, b, d, dvs, F, hn, hd⟩ := T.m_Joining___init__
  refine ⟨f, fd, ⟨a, b, d, dvs, F, hn, hd⟩, ok_defD (N := ["self", "match", "write", "many", "new", "gone", "guard", "scope", "part"]) (sem := b_Joining___init__) [true, true, true, true, true, true, true, true] T.hK F sc_Joining___init__ rfl (by decide) ?_⟩
  rintro X W ⟨cdv, A, outer, s, H, E, rfl⟩ D
  exact (ss_cons (ss_set (i := 8) D.nd rfl (by first | exact Or.inl rfl | exact Or.inr rfl) rfl (e_call D (ok_wrong_part T) (by first | decide | exact Nat.le_trans (by decide) (Nat.le_add_right _ _)) (by rfl) (sos_cons (so_nm (pv 1)) (sos_cons (so_nm (pv 2)) (sos_cons (so_nm (pv 3)) (sos_cons (so_nm (pv 4)) (sos_cons (so_nm (pv 5)) (sos_cons (so_nm (pv 6)) (sos_cons (so_nm (pv 7)) sos_nil))))))) rfl))
    (ss_cons (ss_if (t_noN (Dk.s D) (so_nm (pv 8))) (ss_one (let ⟨fI, fdI, iC, tI, FI, bI⟩ := T.i_NoJoining; e_raise (fl := ["part"]) D T.x_NoJoining T.o_NoJoining T.cf_NoJoining (by decide) iC tI (ok_init_NoJoining T FI) (by decide) bI (by rfl) (sa_cons (se_nm (pv 8)) sa_nil) (aCons_len aNil_len) (by decide))) ss_nil)
    (ss_one (ss_fld T.fl_held_parts (pv 0) (se_tup (sa_cons (se_nm (pv 1)) (sa_cons (se_nm (pv 2)) (sa_cons (se_nm (pv 3)) (sa_cons (se_nm (pv 4)) (sa_cons (se_nm (pv 5)) (sa_cons (se_nm (pv 6)) (sa_cons (se_nm (pv 7)) sa_nil))))))) (hn := (aCons_len (aCons_len (aCons_len (aCons_len (aCons_len (aCons_len (aCons_len aNil_len)))))))))))))
theorem sc__law_plain : FnScope ["_law_parts_here", "_law_by", "_law_to", "_law_which", "_law_unmet", "_law_left", "_law_fresh", "_law_where"] ["_law_parts_here"] (defScope (top 34)) := ⟨rfl, rfl, rfl, by decide +kernel, rfl, by decide +kernel, by decide +kernel⟩
theorem ok__law_plain (T : Txt K mg c) : Def P w K mg base c 7 "_law_plain" (top 34) ["_law_parts_here"] f__law_plain := by
  obtain ⟨f, fd, hm, F, hb⟩ := T.d__law_plain
  refine ⟨f, fd, hm, F, hb, ok_def (N := ["_law_parts_here", "_law_by", "_law_to", "_law_which", "_law_unmet", "_law_left", "_law_fresh", "_law_where"]) (sem := b__law_plain) [true] T.hK F sc__law_plain rfl (by decide) ?_⟩
  rintro X W ⟨cdv, A, outer, s, H, E, rfl⟩ D
  exact (ss_cons (ss_setT (se_nm (pv 0)) (sg_tl D.K D.calm (sgs_cons (sg_name D.nd rfl (by first | exact Or.inl rfl | exact Or.inr rfl) rfl) (sgs_cons (sg_name D.nd rfl (by first | exact Or.inl rfl | exact Or.inr rfl) rfl) (sgs_cons (sg_name D.nd rfl (by first | exact Or.inl rfl | exact Or.inr rfl) rfl) (sgs_cons (sg_name D.nd rfl (by first | exact Or.inl rfl | exact Or.inr rfl) rfl) (sgs_cons (sg_name D.nd rfl (by first | exact Or.inl rfl | exact Or.inr rfl) rfl) (sgs_cons (sg_name D.nd rfl (by first | exact Or.inl rfl | exact Or.inr rfl) rfl) (sgs_cons (sg_name D.nd rfl (by first | exact Or.inl rfl | exact Or.inr rfl) rfl) sgs_nil)))))))))
    (ss_one (ss_ret (e_makeX (nd := 5) (ks := []) (J := []) (pp := [0, 1, 2, 3, 4, 5, 6, 7]) (qq := [0, 1, 2, 3, 4, 5, 6, 7]) D (ok_Joining___init__ T) T.mk_Joining T.kp_Joining (by decide) (by rfl) T.ct_Joining.mg (fun _ _ _ _ _ _ _ us ws its h1 h2 h3 => match us, ws, its, h1, h2, h3 with | [_, _, _, _, _, _, _, _], [], [_, _, _, _, _], _, _, _ => ⟨_, rfl, rfl⟩) rfl rfl (by decide) rfl (sos_cons (so_nm (pv 1)) (sos_cons (so_nm (pv 2)) (sos_cons (so_nm (pv 3)) (sos_cons (so_nm (pv 4)) (sos_cons (so_nm (pv 5)) (sos_cons (so_nm (pv 6)) (sos_cons (so_nm (pv 7)) sos_nil))))))) sk_nil))))
theorem sc__law_by_name : FnScope ["_law_parts_here", "_law_by", "_law_to", "_law_which", "_law_unmet", "_law_left", "_law_fresh", "_law_where"] ["_law_parts_here"] (defScope (top 35)) := ⟨rfl, rfl, rfl, by decide +kernel, rfl, by decide +kernel, by decide +kernel⟩
theorem ok__law_by_name (T : Txt K mg c) : Def P w K mg base c 7 "_law_by_name" (top 35) ["_law_parts_here"] f__law_by_name := by
  obtain ⟨f, fd, hm, F, hb⟩ := T.d__law_by_name
  refine ⟨f, fd, hm, F, hb, ok_def (N := ["_law_parts_here", "_law_by", "_law_to", "_law_which", "_law_unmet", "_law_left", "_law_fresh", "_law_where"]) (sem := b__law_by_name) [true] T.hK F sc__law_by_name rfl (by decide) ?_⟩
  rintro X W ⟨cdv, A, outer, s, H, E, rfl⟩ D
  exact (ss_cons (ss_setT (se_nm (pv 0)) (sg_tl D.K D.calm (sgs_cons (sg_name D.nd rfl (by first | exact Or.inl rfl | exact Or.inr rfl) rfl) (sgs_cons (sg_name D.nd rfl (by first | exact Or.inl rfl | exact Or.inr rfl) rfl) (sgs_cons (sg_name D.nd rfl (by first | exact Or.inl rfl | exact Or.inr rfl) rfl) (sgs_cons (sg_name D.nd rfl (by first | exact Or.inl rfl | exact Or.inr rfl) rfl) (sgs_cons (sg_name D.nd rfl (by first | exact Or.inl rfl | exact Or.inr rfl) rfl) (sgs_cons (sg_name D.nd rfl (by first | exact Or.inl rfl | exact Or.inr rfl) rfl) (sgs_cons (sg_name D.nd rfl (by first | exact Or.inl rfl | exact Or.inr rfl) rfl) sgs_nil)))))))))
    (ss_one (ss_ret (e_makeX0 (nd := 5) (ks := ["scope", "guard", "gone", "new", "many", "write", "match"]) (J := []) (pp := [0, 7, 6, 5, 4, 3, 2, 1]) (qq := [0, 7, 6, 5, 4, 3, 2, 1]) D (ok_Joining___init__ T) T.mk_Joining T.kp_Joining (by decide) (by rfl) T.ct_Joining.mg (fun _ _ _ _ _ _ _ us ws its h1 h2 h3 => match us, ws, its, h1, h2, h3 with | [_], [_, _, _, _, _, _, _], [_, _, _, _, _], _, _, _ => ⟨_, rfl, rfl⟩) rfl rfl (by decide) rfl (sk_cons (so_nm (pv 7)) (sk_cons (so_nm (pv 6)) (sk_cons (so_nm (pv 5)) (sk_cons (so_nm (pv 4)) (sk_cons (so_nm (pv 3)) (sk_cons (so_nm (pv 2)) (sk_cons (so_nm (pv 1)) sk_nil)))))))))))
theorem sc__law_made : FnScope ["_law_parts_here", "_law_by_name_here", "_law_made_here", "_law_told", "_law_right", "e"] ["_law_parts_here", "_law_by_name_here"] (defScope (top 36)) := ⟨rfl, rfl, rfl, by decide +kernel, rfl, by decide +kernel, by decide +kernel⟩
theorem ok__law_made (T : Txt K mg c) : Def P w K mg base c 8 "_law_made" (top 36) ["_law_parts_here", "_law_by_name_here"] f__law_made := by
  obtain ⟨f, fd, hm, F, hb⟩ := T.d__law_made
  refine ⟨f, fd, hm, F, hb, ok_def (N := ["_law_parts_here", "_law_by_name_here", "_law_made_here", "_law_told", "_law_right", "e"]) (sem := b__law_made) [true, true] T.hK F sc__law_made rfl (by decide) ?_⟩
  rintro X W ⟨cdv, A, outer, s, H, E, rfl⟩ D
  exact (ss_cons (ss_setT (se_tup (sa_cons se_non (sa_cons se_non (sa_cons se_bl sa_nil))) (hn := (aCons_len (aCons_len (aCons_len aNil_len))))) (sg_tup D.K D.calm (sgs_cons (sg_name D.nd rfl (by first | exact Or.inl rfl | exact Or.inr rfl) rfl) (sgs_cons (sg_name D.nd rfl (by first | exact Or.inl rfl | exact Or.inr rfl) rfl) (sgs_cons (sg_name D.nd rfl (by first | exact Or.inl rfl | exact Or.inr rfl) rfl) sgs_nil)))))
    (ss_cons (ss_try D (fun W' pn xe D' => (ss_one (ss_set (i := 2) D'.nd rfl (by first | exact Or.inl rfl | exact Or.inr rfl) rfl (se_if (st_val (se_nm (pv 1))) (e_call D' (ok__law_by_name T) (by first | decide | exact Nat.le_trans (by decide) (Nat.le_add_right _ _)) (by rfl) (sos_cons (so_nm (pv 0)) sos_nil) rfl) (e_call D' (ok__law_plain T) (by first | decide | exact Nat.le_trans (by decide) (Nat.le_add_right _ _)) (by rfl) (sos_cons (so_nm (pv 0)) sos_nil) rfl))))) (.consAs (i := 5) rfl rfl rfl ⟨rfl, by decide, .inl T.x_NoJoining.mg⟩ (T.s_NoJoining.exm T.x_NoJoining) (fun a pn => (ss_cons (ss_set (i := 3) (Ds.suite (Dk.s D) a pn).nd rfl (by first | exact Or.inl rfl | exact Or.inr rfl) rfl (e_xfld (Ds.suite (Dk.s D) a pn) T.x_NoJoining T.cf_NoJoining (j := 0) rfl (by decide +kernel) T.no_NoJoining_part (so_nm (pv 5))))
    (ss_one (ss_set (i := 4) (Ds.suite (Dk.s D) a pn).nd rfl (by first | exact Or.inl rfl | exact Or.inr rfl) rfl (se_and (e_ix1 (ks := [0, 1, 2, 3]) T.xall T.xg T.b_isinstance (by rfl) (ce_own T.x_SheetError (by rfl)) (T.s_SheetError.kit T.x_SheetError (by decide) (by decide)) (so_nm (pv 5))) (se_and (e_ix1 (ks := [0, 1, 2, 3]) T.xall T.xg T.b_isinstance (by rfl) (ce_ty (by rfl) T.b_ValueError (by decide +kernel)) (T.s_ValueError.kitT (by decide +kernel)) (so_nm (pv 5))) (se_one (se_not (e_ixT (ks := [1, 2]) T.xall T.xg T.b_isinstance (by rfl) (ces_cons (ce_own T.x_NoColumns (by rfl)) (ces_cons (ce_own T.x_NoSending (by rfl)) ces_nil)) (by show 2 ≤ sizeLine; decide) (xa_cons (T.s_NoColumns.kit T.x_NoColumns (by decide) (by decide)) (xa_cons (T.s_NoSending.kit T.x_NoSending (by decide) (by decide)) xa_nil)) (so_nm (pv 5))))))))))) .nil))
    (ss_one (ss_ret (se_tup (sa_cons (se_nm (pv 2)) (sa_cons (se_nm (pv 3)) (sa_cons (se_nm (pv 4)) sa_nil))) (hn := (aCons_len (aCons_len (aCons_len aNil_len)))))))))
theorem sc_Joining___eq__ : FnScope ["self", "other"] ["self", "other"] (defScope (inClass (top 21) 2)) := ⟨rfl, rfl, rfl, by decide +kernel, rfl, by decide +kernel, by decide +kernel⟩
theorem ok_Joining___eq__ (T : Txt K mg c) : MDef P w K mg base c 1 4 "__eq__" "Joining.__eq__" (inClass (top 21) 2) ["self", "other"] f_Joining___eq__ := by
  obtain ⟨f, fd, M⟩ := T.m_Joining___eq__
  refine ⟨f, fd, M, ok_def (N := ["self", "other"]) (sem := b_Joining___eq__) [true, true] T.hK M.2.2.2.1 sc_Joining___eq__ rfl (by decide) ?_⟩
  rintro X W ⟨cdv, A, outer, s, H, E, rfl⟩ D
  exact (ss_one (ss_ret (se_and (e_isaI (Dk.s D) T.cts T.xg T.ct_Joining T.is_Joining T.b_isinstance (by rfl) (by rfl) (so_nm (pv 1))) (se_one (e_eqF2 (Dk.s D) T.fl_held_parts T.fl_held_parts (pv 0) (pv 1))))))
theorem sc__law_equal_right : FnScope ["_law_parts_here", "_law_one", "_law_other", "_law_found", "_law_menus", "_law_k", "_law_first", "_law_second", "_law_other_part", "_law_odd", "_law_by", "_law_to", "_law_due"] ["_law_parts_here"] (defScope (top 37)) := ⟨rfl, rfl, rfl, by decide +kernel, rfl, by decide +kernel, by decide +kernel⟩
theorem ok__law_equal_right (T : Txt K mg c) : Def P w K mg base c 9 "_law_equal_right" (top 37) ["_law_parts_here"] f__law_equal_right := by
  obtain ⟨f, fd, hm, F, hb⟩ := T.d__law_equal_right
  refine ⟨f, fd, hm, F, hb, ok_def (N := ["_law_parts_here", "_law_one", "_law_other", "_law_found", "_law_menus", "_law_k", "_law_first", "_law_second", "_law_other_part", "_law_odd", "_law_by", "_law_to", "_law_due"]) (sem := b__law_equal_right) [true] T.hK F sc__law_equal_right rfl (by decide) ?_⟩
  rintro X W ⟨cdv, A, outer, s, H, E, rfl⟩ D
  exact (ss_cons (ss_par2 D.calm D.nd rfl rfl (by decide) rfl rfl rfl rfl (sa_cons (e_call D (ok__law_plain T) (by first | decide | exact Nat.le_trans (by decide) (Nat.le_add_right _ _)) (by rfl) (sos_cons (so_nm (pv 0)) sos_nil) rfl) (sa_cons (e_call D (ok__law_by_name T) (by first | decide | exact Nat.le_trans (by decide) (Nat.le_add_right _ _)) (by rfl) (sos_cons (so_nm (pv 0)) sos_nil) rfl) sa_nil)) (by first | rfl | kernel_rfl))
    (ss_cons (ss_set (i := 3) D.nd rfl (by first | exact Or.inl rfl | exact Or.inr rfl) rfl (se_lst (sa_cons (e_eqI D T.cts T.xg (eqs_cons ((ok_Joining___eq__ T).eq rfl T.nf_Joining (by decide)) eqs_nil) (so_nm (pv 1)) (so_nm (pv 2))) (sa_cons (e_eqI D T.cts T.xg (eqs_cons ((ok_Joining___eq__ T).eq rfl T.nf_Joining (by decide)) eqs_nil) (so_nm (pv 1)) (so_nm (pv 0))) (sa_cons (e_eqI D T.cts T.xg (eqs_cons ((ok_Joining___eq__ T).eq rfl T.nf_Joining (by decide)) eqs_nil) (so_nm (pv 1)) (so_ev se_non)) (sa_cons (e_eq (Dk.s D) (so_ev (e_meth0 D (so_nm (pv 1)) (ms_cons ((ok_Joining_parts T).mok T.ct_Joining.cl T.cF_Joining (by decide) (by decide)) ms_nil) rfl (pl := _) (by exact rfl))) (so_ev (e_meth0 D (so_nm (pv 2)) (ms_cons ((ok_Joining_parts T).mok T.ct_Joining.cl T.cF_Joining (by decide) (by decide)) ms_nil) rfl (pl := _) (by exact rfl)))) sa_nil)))) (hn := (aCons_len (aCons_len (aCons_len (aCons_len aNil_len)))))))
    (ss_cons (ss_if (st_not (st_val (e_call D (ok__law_same T 6) (by first | decide | exact Nat.le_trans (by decide) (Nat.le_add_right _ _)) (by rfl) (sos_cons (so_nm (pv 3)) (sos_cons (so_ev (se_lst (sa_cons se_bl (sa_cons se_bl (sa_cons se_bl (sa_cons se_bl sa_nil)))) (hn := (aCons_len (aCons_len (aCons_len (aCons_len aNil_len))))))) sos_nil)) rfl))) (ss_one (ss_ret se_bl)) ss_nil)
    (ss_cons (ss_set (i := 4) D.nd rfl (by first | exact Or.inl rfl | exact Or.inr rfl) rfl (se_lst (sa_cons (se_tup (sa_cons (se_tup (sa_cons (se_str (by decide +kernel)) sa_nil) (hn := (aCons_len aNil_len))) (sa_cons (se_tup (sa_cons (se_str (by decide +kernel)) sa_nil) (hn := (aCons_len aNil_len))) sa_nil)) (hn := (aCons_len (aCons_len aNil_len)))) (sa_cons (se_tup (sa_cons (se_tup sa_nil (hn := aNil_len)) (sa_cons (se_tup (sa_cons (se_tup (sa_cons (se_str (by decide +kernel)) (sa_cons (se_str (by decide +kernel)) sa_nil)) (hn := (aCons_len (aCons_len aNil_len)))) sa_nil) (hn := (aCons_len aNil_len))) sa_nil)) (hn := (aCons_len (aCons_len aNil_len)))) (sa_cons (se_tup (sa_cons (se_str (by decide +kernel)) (sa_cons (se_str (by decide +kernel)) sa_nil)) (hn := (aCons_len (aCons_len aNil_len)))) (sa_cons (se_tup (sa_cons (se_str (by decide +kernel)) (sa_cons (se_str (by decide +kernel)) sa_nil)) (hn := (aCons_len (aCons_len aNil_len)))) sa_nil)))) (hn := (aCons_len (aCons_len (aCons_len (aCons_len aNil_len)))))))
    (ss_cons (ss_set (i := 4) D.nd rfl (by first | exact Or.inl rfl | exact Or.inr rfl) rfl (w_add (Dk.s D) (so_nm (pv 4)) (so_ev (se_lst (sa_cons (se_tup (sa_cons (se_str (by decide +kernel)) (sa_cons (se_str (by decide +kernel)) sa_nil)) (hn := (aCons_len (aCons_len aNil_len)))) (sa_cons (se_tup (sa_cons (se_tup sa_nil (hn := aNil_len)) (sa_cons (se_tup (sa_cons (se_str (by decide +kernel)) sa_nil) (hn := (aCons_len aNil_len))) sa_nil)) (hn := (aCons_len (aCons_len aNil_len)))) (sa_cons (se_tup (sa_cons (se_str (by decide +kernel)) (sa_cons (se_str (by decide +kernel)) sa_nil)) (hn := (aCons_len (aCons_len aNil_len)))) sa_nil))) (hn := (aCons_len (aCons_len (aCons_len aNil_len))))))))
    (ss_cons (ss_for D (si_range1 (by rfl) T.b_range se_int) (sg_name D.nd rfl (by first | exact Or.inl rfl | exact Or.inr rfl) rfl) (ss_cons (ss_setT (e_ix (Dk.s D) (so_nm (pv 4)) (so_nm (pv 5)) (fun _ _ => rfl)) (sg_tup D.K D.calm (sgs_cons (sg_name D.nd rfl (by first | exact Or.inl rfl | exact Or.inr rfl) rfl) (sgs_cons (sg_name D.nd rfl (by first | exact Or.inl rfl | exact Or.inr rfl) rfl) sgs_nil))))
    (ss_cons (ss_set (i := 8) D.nd rfl (by first | exact Or.inl rfl | exact Or.inr rfl) rfl (se_if (t_eq (Dk.s D) (so_ev (e_ix (Dk.s D) (so_nm (pv 0)) (so_nm (pv 5)) (fun _ _ => rfl))) (so_nm (pv 6))) (se_nm (pv 7)) (se_nm (pv 6))))
    (ss_cons (ss_set (i := 9) D.nd rfl (by first | exact Or.inl rfl | exact Or.inr rfl) rfl (w_add (Dk.s D) (so_ev (w_add (Dk.s D) (so_ev (e_sl (Dk.s D) (so_nm (pv 0)) sb_none (sb_some (se_nm (pv 5))))) (so_ev (se_tup (sa_cons (se_nm (pv 8)) sa_nil) (hn := (aCons_len aNil_len)))))) (so_ev (e_sl (Dk.s D) (so_nm (pv 0)) (sb_some (w_add (Dk.s D) (so_nm (pv 5)) (so_ev se_int))) sb_none))))
    (ss_one (ss_if (st_not (st_val (e_call D (ok__law_same T 6) (by first | decide | exact Nat.le_trans (by decide) (Nat.le_add_right _ _)) (by rfl) (sos_cons (so_ev (se_lst (sa_cons (e_eqI D T.cts T.xg (eqs_cons ((ok_Joining___eq__ T).eq rfl T.nf_Joining (by decide)) eqs_nil) (so_nm (pv 1)) (so_ev (e_call D (ok__law_plain T) (by first | decide | exact Nat.le_trans (by decide) (Nat.le_add_right _ _)) (by rfl) (sos_cons (so_nm (pv 9)) sos_nil) rfl))) (sa_cons (e_eqI D T.cts T.xg (eqs_cons ((ok_Joining___eq__ T).eq rfl T.nf_Joining (by decide)) eqs_nil) (so_ev (e_call D (ok__law_plain T) (by first | decide | exact Nat.le_trans (by decide) (Nat.le_add_right _ _)) (by rfl) (sos_cons (so_nm (pv 9)) sos_nil) rfl)) (so_nm (pv 1))) sa_nil)) (hn := (aCons_len (aCons_len aNil_len))))) (sos_cons (so_ev (se_lst (sa_cons se_bl (sa_cons se_bl sa_nil)) (hn := (aCons_len (aCons_len aNil_len))))) sos_nil)) rfl))) (ss_one (ss_ret se_bl)) ss_nil))))))
    (ss_cons (ss_par2 D.calm D.nd rfl rfl (by decide) rfl rfl rfl rfl (sa_cons (e_ix (Dk.s D) (so_nm (pv 0)) (so_ev se_int) (fun _ _ => rfl)) (sa_cons (e_ix (Dk.s D) (so_nm (pv 0)) (so_ev se_int) (fun _ _ => rfl)) sa_nil)) (by first | rfl | kernel_rfl))
    (ss_cons (ss_set (i := 3) D.nd rfl (by first | exact Or.inl rfl | exact Or.inr rfl) rfl (se_lst (sa_cons (e_meth0 D (so_ev (e_makeX (nd := 5) (ks := []) (J := [0, 1, 2, 3, 4]) (pp := [0, 1, 2, 3, 4, 5, 6, 7]) (qq := [0, 1, 2, 3, 4, 5, 6, 7]) D (ok_Joining___init__ T) T.mk_Joining T.kp_Joining (by decide) (by rfl) T.ct_Joining.mg (fun _ _ _ _ _ _ _ us ws its h1 h2 h3 => match us, ws, its, h1, h2, h3 with | [_, _, _], [], [_, _, _, _, _], _, _, _ => ⟨_, rfl, rfl⟩) rfl rfl (by decide) rfl (sos_cons (so_nm (pv 10)) (sos_cons (so_nm (pv 11)) sos_nil)) sk_nil)) (ms_cons ((ok_Joining_parts T).mok T.ct_Joining.cl T.cF_Joining (by decide) (by decide)) ms_nil) rfl (pl := _) (by exact rfl)) (sa_cons (e_meth0 D (so_ev (e_makeX (nd := 5) (ks := ["new", "scope"]) (J := [0, 2, 3]) (pp := [0, 1, 2, 5, 3, 6, 7, 4]) (qq := [0, 1, 2, 4, 7, 3, 5, 6]) D (ok_Joining___init__ T) T.mk_Joining T.kp_Joining (by decide) (by rfl) T.ct_Joining.mg (fun _ _ _ _ _ _ _ us ws its h1 h2 h3 => match us, ws, its, h1, h2, h3 with | [_, _, _], [_, _], [_, _, _, _, _], _, _, _ => ⟨_, rfl, rfl⟩) rfl rfl (by decide) rfl (sos_cons (so_nm (pv 10)) (sos_cons (so_nm (pv 11)) sos_nil)) (sk_cons (so_ev (se_str (by decide +kernel))) (sk_cons (so_ev (se_str (by decide +kernel))) sk_nil)))) (ms_cons ((ok_Joining_parts T).mok T.ct_Joining.cl T.cF_Joining (by decide) (by decide)) ms_nil) rfl (pl := _) (by exact rfl)) sa_nil)) (hn := (aCons_len (aCons_len aNil_len)))))
    (ss_cons (ss_set (i := 12) D.nd rfl (by first | exact Or.inl rfl | exact Or.inr rfl) rfl (se_lst (sa_cons (se_tup (sa_cons (se_nm (pv 10)) (sa_cons (se_nm (pv 11)) (sa_cons (se_str (by decide +kernel)) (sa_cons (se_str (by decide +kernel)) (sa_cons (se_str (by decide +kernel)) (sa_cons (se_tup sa_nil (hn := aNil_len)) (sa_cons (se_str (by decide +kernel)) sa_nil))))))) (hn := (aCons_len (aCons_len (aCons_len (aCons_len (aCons_len (aCons_len (aCons_len aNil_len))))))))) (sa_cons (se_tup (sa_cons (se_nm (pv 10)) (sa_cons (se_nm (pv 11)) (sa_cons (se_str (by decide +kernel)) (sa_cons (se_str (by decide +kernel)) (sa_cons (se_str (by decide +kernel)) (sa_cons (se_tup sa_nil (hn := aNil_len)) (sa_cons (se_str (by decide +kernel)) sa_nil))))))) (hn := (aCons_len (aCons_len (aCons_len (aCons_len (aCons_len (aCons_len (aCons_len aNil_len))))))))) sa_nil)) (hn := (aCons_len (aCons_len aNil_len)))))
    (ss_one (ss_ret (e_call D (ok__law_same T 6) (by first | decide | exact Nat.le_trans (by decide) (Nat.le_add_right _ _)) (by rfl) (sos_cons (so_nm (pv 3)) (sos_cons (so_nm (pv 12)) sos_nil)) rfl))))))))))))
theorem sc_law : FnScope ["_law_script", "_law_at", "_law_pot_here", "_law_names_here", "_law_place", "_law_parts_here", "_law_turn", "_law_bad", "_law_step", "_law_due", "_law_by_name_here", "_law_made_here", "_law_told", "_law_right"] ["_law_script"] (defScope (top 38)) := ⟨rfl, rfl, rfl, by decide +kernel, rfl, by decide +kernel, by decide +kernel⟩
theorem ok_law (T : Txt K mg c) : Def P w K mg base c 10 "law" (top 38) ["_law_script"] f_law := by
  obtain ⟨f, fd, hm, F, hb⟩ := T.d_law
  refine ⟨f, fd, hm, F, hb, ok_def (N := ["_law_script", "_law_at", "_law_pot_here", "_law_names_here", "_law_place", "_law_parts_here", "_law_turn", "_law_bad", "_law_step", "_law_due", "_law_by_name_here", "_law_made_here", "_law_told", "_law_right"]) (sem := b_law) [true] T.hK F sc_law rfl (by decide) ?_⟩
  rintro X W ⟨cdv, A, outer, s, H, E, rfl⟩ D
  exact (ss_cons (ss_for D (si_range1 (by rfl) T.b_range (e_max2 D T.b_max (by rfl) (so_ev se_int) (so_ev (e_min2 D T.b_min (by rfl) (so_ev se_int) (so_ev (e_len (Dk.s D) T.b_len (by rfl) (so_nm (pv 0)))))))) (sg_name D.nd rfl (by first | exact Or.inl rfl | exact Or.inr rfl) rfl) (ss_cons (ss_set (i := 2) D.nd rfl (by first | exact Or.inl rfl | exact Or.inr rfl) rfl (e_call D (ok__law_pot T) (by first | decide | exact Nat.le_trans (by decide) (Nat.le_add_right _ _)) (by rfl) (sos_cons (so_nm (pv 0)) (sos_cons (so_nm (pv 1)) sos_nil)) rfl))
    (ss_cons (ss_set (i := 3) D.nd rfl (by first | exact Or.inl rfl | exact Or.inr rfl) rfl (e_call D (ok__law_names T) (by first | decide | exact Nat.le_trans (by decide) (Nat.le_add_right _ _)) (by rfl) (sos_cons (so_nm (pv 2)) (sos_cons (so_ev (w_add (Dk.s D) (so_ev se_int) (so_ev (e_call D (ok__law_draw T) (by first | decide | exact Nat.le_trans (by decide) (Nat.le_add_right _ _)) (by rfl) (sos_cons (so_nm (pv 2)) (sos_cons (so_ev se_int) sos_nil)) rfl)))) sos_nil)) rfl))
    (ss_cons (ss_set (i := 4) D.nd rfl (by first | exact Or.inl rfl | exact Or.inr rfl) rfl (e_call D (ok__law_draw T) (by first | decide | exact Nat.le_trans (by decide) (Nat.le_add_right _ _)) (by rfl) (sos_cons (so_nm (pv 2)) (sos_cons (so_ev (w_add (Dk.s D) (so_ev (e_len (Dk.s D) T.b_len (by rfl) (so_nm (pv 3)))) (so_ev se_int))) sos_nil)) rfl))
    (ss_cons (ss_set (i := 3) D.nd rfl (by first | exact Or.inl rfl | exact Or.inr rfl) rfl (se_if (t_eq (Dk.s D) (so_ev (e_call D (ok__law_draw T) (by first | decide | exact Nat.le_trans (by decide) (Nat.le_add_right _ _)) (by rfl) (sos_cons (so_nm (pv 2)) (sos_cons (so_ev se_int) sos_nil)) rfl)) (so_ev se_int)) (w_add (Dk.s D) (so_ev (w_add (Dk.s D) (so_ev (e_sl (Dk.s D) (so_nm (pv 3)) sb_none (sb_some (se_nm (pv 4))))) (so_ev (se_tup (sa_cons (se_str (by decide +kernel)) sa_nil) (hn := (aCons_len aNil_len)))))) (so_ev (e_sl (Dk.s D) (so_nm (pv 3)) (sb_some (se_nm (pv 4))) sb_none))) (se_nm (pv 3))))
    (ss_cons (ss_set (i := 5) D.nd rfl (by first | exact Or.inl rfl | exact Or.inr rfl) rfl (e_call D (ok__law_parts T) (by first | decide | exact Nat.le_trans (by decide) (Nat.le_add_right _ _)) (by rfl) (sos_cons (so_nm (pv 2)) (sos_cons (so_nm (pv 3)) (sos_cons (so_ev (e_eq (Dk.s D) (so_ev (e_call D (ok__law_draw T) (by first | decide | exact Nat.le_trans (by decide) (Nat.le_add_right _ _)) (by rfl) (sos_cons (so_nm (pv 2)) (sos_cons (so_ev se_int) sos_nil)) rfl)) (so_ev se_int))) sos_nil))) rfl))
    (ss_cons (ss_if (st_not (st_val (e_call D (ok__law_equal_right T) (by first | decide | exact Nat.le_trans (by decide) (Nat.le_add_right _ _)) (by rfl) (sos_cons (so_nm (pv 5)) sos_nil) rfl))) (ss_one (ss_ret se_bl)) ss_nil)
    (ss_one (ss_for D (si_range1 (by rfl) T.b_range se_int) (sg_name D.nd rfl (by first | exact Or.inl rfl | exact Or.inr rfl) rfl) (ss_cons (ss_set (i := 7) D.nd rfl (by first | exact Or.inl rfl | exact Or.inr rfl) rfl (e_list (Dk.s D) T.b_list (by rfl) (so_nm (pv 5))))
    (ss_cons (ss_for D (si_range1 (by rfl) T.b_range (e_call D (ok__law_draw T) (by first | decide | exact Nat.le_trans (by decide) (Nat.le_add_right _ _)) (by rfl) (sos_cons (so_nm (pv 2)) (sos_cons (so_ev se_int) sos_nil)) rfl)) (sg_name D.nd rfl (by first | exact Or.inl rfl | exact Or.inr rfl) rfl) (ss_cons (ss_set (i := 4) D.nd rfl (by first | exact Or.inl rfl | exact Or.inr rfl) rfl (e_call D (ok__law_draw T) (by first | decide | exact Nat.le_trans (by decide) (Nat.le_add_right _ _)) (by rfl) (sos_cons (so_nm (pv 2)) (sos_cons (so_ev se_int) sos_nil)) rfl))
    (ss_one (ss_putL (pv 7) (e_call D (ok__law_bent T) (by first | decide | exact Nat.le_trans (by decide) (Nat.le_add_right _ _)) (by rfl) (sos_cons (so_nm (pv 2)) (sos_cons (so_nm (pv 4)) (sos_cons (so_ev (e_ix (Dk.s D) (so_nm (pv 5)) (so_nm (pv 4)) (fun _ _ => rfl))) sos_nil))) rfl) (se_nm (pv 4))))))
    (ss_cons (ss_set (i := 9) D.nd rfl (by first | exact Or.inl rfl | exact Or.inr rfl) rfl (e_call D (ok__law_wrong T) (by first | decide | exact Nat.le_trans (by decide) (Nat.le_add_right _ _)) (by rfl) (sos_cons (so_nm (pv 7)) sos_nil) rfl))
    (ss_one (ss_for D (si_e D.K (se_tup (sa_cons se_bl (sa_cons se_bl sa_nil)) (hn := (aCons_len (aCons_len aNil_len))))) (sg_name D.nd rfl (by first | exact Or.inl rfl | exact Or.inr rfl) rfl) (ss_cons (ss_setT (e_call D (ok__law_made T) (by first | decide | exact Nat.le_trans (by decide) (Nat.le_add_right _ _)) (by rfl) (sos_cons (so_nm (pv 7)) (sos_cons (so_nm (pv 10)) sos_nil)) rfl) (sg_tup D.K D.calm (sgs_cons (sg_name D.nd rfl (by first | exact Or.inl rfl | exact Or.inr rfl) rfl) (sgs_cons (sg_name D.nd rfl (by first | exact Or.inl rfl | exact Or.inr rfl) rfl) (sgs_cons (sg_name D.nd rfl (by first | exact Or.inl rfl | exact Or.inr rfl) rfl) sgs_nil)))))
    (ss_cons (ss_if (SW.st (sw_or (st_not (st_val (se_nm (pv 13)))) (sw_or (st_not (st_val (e_call D (ok__law_same T 6) (by first | decide | exact Nat.le_trans (by decide) (Nat.le_add_right _ _)) (by rfl) (sos_cons (so_nm (pv 12)) (sos_cons (so_nm (pv 9)) sos_nil)) rfl))) (sw_or1 (t_ne (Dk.s D) (so_ev (e_isN (Dk.s D) (so_nm (pv 11)))) (so_ev (e_noN (Dk.s D) (so_nm (pv 9))))))))) (ss_one (ss_ret se_bl)) ss_nil)
    (ss_one (ss_if (SW.st (sw_and (t_isN (Dk.s D) (so_nm (pv 9))) (sw_and1 (st_not (st_val (e_call D (ok__law_same T 6) (by first | decide | exact Nat.le_trans (by decide) (Nat.le_add_right _ _)) (by rfl) (sos_cons (so_ev (e_meth0 D (so_nm (pv 11)) (ms_cons ((ok_Joining_parts T).mok T.ct_Joining.cl T.cF_Joining (by decide) (by decide)) ms_nil) rfl (pl := _) (by exact rfl))) (sos_cons (so_ev (e_tuple (Dk.s D) T.b_tuple (by rfl) (so_nm (pv 7)))) sos_nil)) rfl)))))) (ss_one (ss_ret se_bl)) ss_nil))))))))))))))))))
    (ss_one (ss_ret se_bl)))
end
end Law
set_option Elab.async false
set_option linter.all false
set_option autoImplicit false
/-! Tr.Ev2: the newer constructs, run by simp. -/
namespace Tr.Ev
open Tr
open PySem (Str)
variable {ρ ρ' : Env} {e : PExc} {v w : PV}
def frzR : Res PV → Res PV
  | .ok v ρ => .ok (frz v) ρ
  | .er e ρ => .er e ρ
  | .bad => .bad
@[simp] theorem eFrz_eq {f : EF} : eFrz f ρ = frzR (f ρ) := by unfold eFrz frzR; cases f ρ <;> rfl
@[simp] theorem frzR_ok : frzR (.ok v ρ) = .ok (frz v) ρ := (rfl)
@[simp] theorem eDct0_eq : eDct0 ρ = .ok (.dct true [] []) ρ := (rfl)
@[simp] theorem frz_lst {b : Bool} {xs : List PV} : frz (.lst b xs) = .lst false (frzs xs) := by rw [frz]
@[simp] theorem frz_tup {xs : List PV} : frz (.tup xs) = .tup (frzs xs) := by rw [frz]
@[simp] theorem frz_dct {b : Bool} {ks : List Key} {xs : List PV} : frz (.dct b ks xs) = .dct false ks (frzs xs) := by rw [frz]
@[simp] theorem frzs_nil : frzs [] = [] := (rfl)
@[simp] theorem frzs_cons {x : PV} {xs : List PV} : frzs (x :: xs) = frz x :: frzs xs := by rw [frzs]
@[simp] theorem fro_df {ks : List Key} {xs : List PV} : fro (.dct false ks xs) = fros xs := by rw [fro]; rfl
def raR (k : Nat) : Res (List PV) → SR
  | .ok vs ρ => .er ⟨k, (frzs vs).reverse⟩ ρ
  | .er e ρ => .er e ρ
  | .bad => .bad
def ra0 (k : Nat) : Res (List PV) → SR
  | .ok _ ρ => .er ⟨k, []⟩ ρ
  | .er e ρ => .er e ρ
  | .bad => .bad
@[simp] theorem sRaise_eq {k : Nat} {g : AF} : sRaise k g ρ = raR k (g ρ) := by unfold sRaise raR; cases g ρ <;> rfl
@[simp] theorem sRaise0_eq {k : Nat} {g : AF} : sRaise0 k g ρ = ra0 k (g ρ) := by unfold sRaise0 ra0; cases g ρ <;> rfl
@[simp] theorem raR_ok {k : Nat} {vs : List PV} : raR k (.ok vs ρ) = .er ⟨k, (frzs vs).reverse⟩ ρ := (rfl)
@[simp] theorem ra0_ok {k : Nat} {vs : List PV} : ra0 k (.ok vs ρ) = .er ⟨k, []⟩ ρ := (rfl)
@[simp] theorem doR_er {e : PExc} : doR (.er e ρ) = .er e ρ := (rfl)
@[simp] theorem retR_er {e : PExc} : retR (.er e ρ) = .er e ρ := (rfl)
@[simp] theorem setR_er {i : Nat} {e : PExc} : setR i (.er e ρ) = .er e ρ := (rfl)
@[simp] theorem siR_er {a b : SF} {e : PExc} : siR a b (.er e ρ) = .er e ρ := (rfl)
def tryR (n : Nat) (hs : List Hd) : SR → SR
  | .er e ρ => if e.cls < n then runHd hs e ρ else .bad
  | r => r
@[simp] theorem sTry_eq {n : Nat} {b : SF} {hs : List Hd} : sTry n b hs ρ = tryR n hs (b ρ) := by unfold sTry tryR; cases b ρ <;> rfl
@[simp] theorem tryR_nx {n : Nat} {hs : List Hd} : tryR n hs (.nx ρ) = .nx ρ := (rfl)
@[simp] theorem tryR_rt {n : Nat} {hs : List Hd} : tryR n hs (.rt v ρ) = .rt v ρ := (rfl)
@[simp] theorem tryR_er {n : Nat} {hs : List Hd} : tryR n hs (.er e ρ) = if e.cls < n then runHd hs e ρ else .bad := (rfl)
@[simp] theorem runHd_nil : runHd [] e ρ = .er e ρ := (rfl)
@[simp] theorem runHd_none {ks : List Nat} {s : SF} {hs : List Hd} : runHd ((ks, none, s) :: hs) e ρ = if ks.contains e.cls then suiteEnd none (s ρ) else runHd hs e ρ := (rfl)
@[simp] theorem runHd_some {ks : List Nat} {i : Nat} {s : SF} {hs : List Hd} : runHd ((ks, some i, s) :: hs) e ρ = if ks.contains e.cls then suiteEnd (some i) (s (ρ.set i (some (.exc e.cls e.vals)))) else runHd hs e ρ := (rfl)
@[simp] theorem se_nx0 : suiteEnd none (.nx ρ) = .nx ρ := (rfl)
@[simp] theorem se_nx1 {i : Nat} : suiteEnd (some i) (.nx ρ) = .nx (ρ.set i none) := (rfl)
@[simp] theorem se_rt0 : suiteEnd none (.rt v ρ) = .rt v ρ := (rfl)
@[simp] theorem se_rt1 {i : Nat} : suiteEnd (some i) (.rt v ρ) = .rt v (ρ.set i none) := (rfl)
@[simp] theorem xfld_eq {k j k' : Nat} {vs : List PV} : xfld k j (.exc k' vs) = if k' = k then vs[j]? else none := (rfl)
@[simp] theorem isaX_eq {n k : Nat} {ks : List Nat} {vs : List PV} : isaX n ks (.exc k vs) = if k < n then some (ks.contains k) else none := (rfl)
@[simp] theorem finE_eq {fx : List Bool} {as : List PV} : finE fx as e ρ = match outs fx as ρ with | some as' => .er e as' | none => .bad := (rfl)
@[simp] theorem fro_exc {k : Nat} {vs : List PV} : fro (.exc k vs) = fros vs := by rw [fro]
@[simp] theorem frz_exc {k : Nat} {vs : List PV} : frz (.exc k vs) = .exc k (frzs vs) := by rw [frz]
end Tr.Ev
set_option Elab.async false
set_option linter.all false
set_option autoImplicit false
/-! Tr.Ev3: instances and what came with them, run by simp. -/
namespace Tr.Ev
open Tr
open PySem (Str)
variable {ρ ρ' : Env} {e : PExc} {v w u : PV} {vs ws xs ys : List PV} {tb tc : Tb} {k j i m : Nat} {b : Bool}
theorem fldv_ins : fldv tb (.ins b k vs) = (tb.lookup k).bind fun j => vs[j]? := (rfl)
@[simp] theorem fldv_hd {tb : Tb} : fldv ((k, j) :: tb) (.ins b k vs) = vs[j]? := by rw [fldv_ins, List.lookup_cons, show (k == k) = true by simp]; rfl
@[simp] theorem pj_eq {β : Type} {f : PV → Option β} : pj tb f v = (fldv tb v).bind f := (rfl)
@[simp] theorem pjl_eq {β : Type} {f : PV → PV → Option β} : pjl tb f v w = (fldv tb v).bind fun u => f u w := (rfl)
@[simp] theorem pjr_eq {β : Type} {f : PV → PV → Option β} : pjr tb f v w = (fldv tb w).bind fun u => f v u := (rfl)
@[simp] theorem pj2_eq {β : Type} {f : PV → PV → Option β} : pj2 tb tc f v w = (fldv tb v).bind fun u => (fldv tc w).bind fun z => f u z := (rfl)
/-! x.f = e -/
def pfS (i : Nat) (tb : Tb) (v : PV) (ρ : Env) : Option PV → SR
  | some (.ins true k vs) => match (tb.lookup k).bind fun j => putFld j v vs with
    | some ws => .nx (ρ.set i (some (.ins true k ws)))
    | none => .bad
  | _ => .bad
def pfR (i : Nat) (tb : Tb) : Res PV → SR
  | .ok v ρ => pfS i tb v ρ (slot ρ i)
  | .er e ρ => .er e ρ
  | .bad => .bad
@[simp] theorem sPutF_eq {f : EF} : sPutF i tb f ρ = pfR i tb (f ρ) := by
  unfold sPutF pfR
  cases f ρ with
  | ok v ρ1 => rw [sOf_ok]; unfold pfS; rfl
  | er => rfl
  | bad => rfl
@[simp] theorem pfR_ok : pfR i tb (.ok v ρ) = pfS i tb v ρ (slot ρ i) := (rfl)
@[simp] theorem pfS_hd : pfS i ((k, j) :: tb) v ρ (some (.ins true k vs)) = match putFld j v vs with | some ws => .nx (ρ.set i (some (.ins true k ws))) | none => .bad := by
  show (match ((k, j) :: tb).lookup k |>.bind fun j => putFld j v vs with | some ws => SR.nx (ρ.set i (some (.ins true k ws))) | none => SR.bad) = _
  rw [List.lookup_cons, show (k == k) = true by simp]; rfl
@[simp] theorem putFld_0n : putFld 0 v [] = some [v] := (rfl)
@[simp] theorem putFld_0 : putFld 0 v (w :: vs) = some (v :: vs) := (rfl)
@[simp] theorem putFld_1n : putFld 1 v [w] = some [w, v] := (rfl)
@[simp] theorem putFld_1 : putFld 1 v (w :: u :: vs) = some (w :: v :: vs) := (rfl)
/-! C(..), o.m(..) -/
def mkR1 (k : Nat) (sem : FF) (os : List Opd) (ds : List PV) : Res (List (Option PV)) → Res PV
  | .ok ts ρ => match takeAll os ts ρ with
    | none => .bad
    | some (vs, ρ2) => made (sem (.ins true k [] :: (vs ++ ds))) .ok fun ws => giveAll os vs ws ρ2
  | .er e ρ => .er e ρ
  | .bad => .bad
@[simp] theorem eMake_eq {sem : FF} {os : List Opd} {ds : List PV} : eMake k sem os ds ρ = mkR1 k sem os ds (goAll os ρ) := by
  unfold eMake mkR1; cases goAll os ρ <;> rfl
@[simp] theorem mkR1_ok {sem : FF} {os : List Opd} {ds : List PV} {ts : List (Option PV)} : mkR1 k sem os ds (.ok ts ρ) = match takeAll os ts ρ with
    | none => .bad
    | some (vs, ρ2) => made (sem (.ins true k [] :: (vs ++ ds))) .ok fun ws => giveAll os vs ws ρ2 := (rfl)
@[simp] theorem made_ok {α : Type} {f : PV → Env → Res α} {g : List PV → Env} : made (.ok .non (v :: ws)) f g = f v (g ws) := (rfl)
@[simp] theorem made_er {α : Type} {f : PV → Env → Res α} {g : List PV → Env} : made (.er e (v :: ws)) f g = .er e (g ws) := (rfl)
@[simp] theorem recv_hd {sem : FF} {mt : MT} : recv ((k, sem) :: mt) (some (.ins b k vs)) = some sem := by
  show List.lookup k ((k, sem) :: mt) = _
  rw [List.lookup_cons, show (k == k) = true by simp]
def meT (o : Opd) (os : List Opd) (ds : List PV) (sem : FF) (t : Option PV) : Res (List (Option PV)) → Res PV
  | .ok ts ρ => match takeAll (o :: os) (t :: ts) ρ with
    | none => .bad
    | some (vs, ρ3) => back (sem (vs ++ ds)) .ok fun ws => giveAll (o :: os) vs ws ρ3
  | .er e ρ => .er e ρ
  | .bad => .bad
def meR (o : Opd) (os : List Opd) (ds : List PV) (t : Option PV) (ρ : Env) : Option FF → Res PV
  | none => .bad
  | some sem => meT o os ds sem t (goAll os ρ)
def me1 (mt : MT) (o : Opd) (os : List Opd) (ds : List PV) : Res (Option PV) → Res PV
  | .ok t ρ => meR o os ds t ρ (recv mt (o.get t ρ))
  | _ => .bad
@[simp] theorem eMeth_eq {mt : MT} {o : Opd} {os : List Opd} {ds : List PV} : eMeth mt o os ds ρ = me1 mt o os ds (o.go ρ) := by
  unfold eMeth me1
  cases o.go ρ with
  | ok t ρ1 =>
    rw [Res.bindB_ok]
    show _ = meR o os ds t ρ1 (recv mt (o.get t ρ1))
    cases recv mt (o.get t ρ1) with
    | none => rfl
    | some sem =>
      show (goAll os ρ1).bind _ = meT o os ds sem t (goAll os ρ1)
      cases goAll os ρ1 <;> rfl
  | er => rfl
  | bad => rfl
@[simp] theorem me1_ok {mt : MT} {o : Opd} {os : List Opd} {ds : List PV} {t : Option PV} : me1 mt o os ds (.ok t ρ) = meR o os ds t ρ (recv mt (o.get t ρ)) := (rfl)
@[simp] theorem meR_some {o : Opd} {os : List Opd} {ds : List PV} {sem : FF} {t : Option PV} : meR o os ds t ρ (some sem) = meT o os ds sem t (goAll os ρ) := (rfl)
@[simp] theorem meT_ok {o : Opd} {os : List Opd} {ds : List PV} {sem : FF} {t : Option PV} {ts : List (Option PV)} : meT o os ds sem t (.ok ts ρ) = match takeAll (o :: os) (t :: ts) ρ with
    | none => .bad
    | some (vs, ρ3) => back (sem (vs ++ ds)) .ok fun ws => giveAll (o :: os) vs ws ρ3 := (rfl)
/-! own operators -/
@[simp] theorem dispX_hd {sem : FF} {mt : MT} {as : List PV} : dispX ((k, sem) :: mt) (.ins b k vs :: as) = sem (.ins b k vs :: as) := by
  unfold dispX
  rw [List.head?_cons, recv_hd]
theorem disp_hd {sem : FF} {mt : MT} {as : List PV} (h : sem (.ins b k vs :: as) = .ok v ws) : disp ((k, sem) :: mt) (.ins b k vs :: as) = .ok v ws := by
  unfold disp
  rw [List.head?_cons, recv_hd]
  simp only [h]
def te2 (tg : List Nat) (mt : MT) (a b : Opd) (ρ2 : Env) : List PV → Res Bool
  | [v, w] => if othOk tg w = true then (match disp mt [v, w] with
    | .ok (.bl r) ws => .ok r (giveAll [a, b] [v, w] ws ρ2)
    | _ => .bad) else .bad
  | _ => .bad
def te1 (tg : List Nat) (mt : MT) (a b : Opd) : Res (List (Option PV)) → Res Bool
  | .ok ts ρ => match takeAll [a, b] ts ρ with
    | some (vs, ρ2) => te2 tg mt a b ρ2 vs
    | none => .bad
  | .er e ρ => .er e ρ
  | .bad => .bad
@[simp] theorem tEqI_eq {tg : List Nat} {mt : MT} {a b : Opd} : tEqI tg mt a b ρ = te1 tg mt a b (goAll [a, b] ρ) := by
  unfold tEqI te1
  cases goAll [a, b] ρ with
  | ok ts ρ1 =>
    rw [Res.bind_ok]
    show _ = (match takeAll [a, b] ts ρ1 with | some (vs, ρ2) => te2 tg mt a b ρ2 vs | none => .bad)
    cases h : takeAll [a, b] ts ρ1 with
    | none => rfl
    | some z =>
      obtain ⟨vs, ρ2⟩ := z
      match vs with
      | [] => rfl
      | [_] => rfl
      | [_, _] => rfl
      | _ :: _ :: _ :: _ => rfl
  | er => rfl
  | bad => rfl
@[simp] theorem te1_ok {tg : List Nat} {mt : MT} {a b : Opd} {ts : List (Option PV)} : te1 tg mt a b (.ok ts ρ) = match takeAll [a, b] ts ρ with
    | some (vs, ρ2) => te2 tg mt a b ρ2 vs
    | none => .bad := (rfl)
theorem te2_ok {tg : List Nat} {mt : MT} {a b : Opd} {r : Bool} (h : othOk tg w = true) (h2 : disp mt [v, w] = .ok (.bl r) ws) : te2 tg mt a b ρ [v, w] = .ok r (giveAll [a, b] [v, w] ws ρ) := by
  unfold te2
  simp only [h2]
  rw [if_pos h]
@[simp] theorem isaK_ins {tg ks : List Nat} : isaK tg ks (.ins b k vs) = if tg.contains k then some (ks.contains k) else none := (rfl)
@[simp] theorem isaK_lst {tg ks : List Nat} : isaK tg ks (.lst b xs) = some false := (rfl)
@[simp] theorem isaK_tup {tg ks : List Nat} : isaK tg ks (.tup xs) = some false := (rfl)
@[simp] theorem isaK_str {tg ks : List Nat} {x : Str} : isaK tg ks (.str x) = some false := (rfl)
@[simp] theorem oth_lst {tg : List Nat} : othOk tg (.lst b xs) = true := (rfl)
@[simp] theorem oth_tup {tg : List Nat} : othOk tg (.tup xs) = true := (rfl)
@[simp] theorem oth_ins {tg : List Nat} : othOk tg (.ins b k vs) = tg.contains k := (rfl)
@[simp] theorem isA2_eq {T U : Ty} : isA2 T U v = (isA T v).bind fun a => (isA U v).bind fun b => some (a || b) := (rfl)
@[simp] theorem iZip_eq {a b : Opd} : iZip a b ρ = o2 a b zipP (a.go ρ) := op2_eq
def gdR (a b : Opd) (f : PV → PV → Option PV) (t : Option PV) (ρ : Env) : Option PV → Res PV
  | some (.tup _) => o2b a b f t (b.go ρ)
  | _ => .bad
def ixR (a b : Opd) : Res (Option PV) → Res PV
  | .ok t ρ => gdR a b bIdx t ρ (a.get t ρ)
  | .er e ρ => .er e ρ
  | .bad => .bad
@[simp] theorem eIdx_eq {a b : Opd} : eIdx a b ρ = ixR a b (a.go ρ) := by
  unfold eIdx op2g ixR
  cases a.go ρ with
  | ok t ρ1 =>
    rw [Res.bind_ok]
    show _ = gdR a b bIdx t ρ1 (a.get t ρ1)
    cases h : a.get t ρ1 with
    | none => rfl
    | some v =>
      cases v <;> first | rfl | skip
      unfold gdR o2b
      simp only [Option.any_some, isTup, if_true]
      cases b.go ρ1 <;> rfl
  | er => rfl
  | bad => rfl
@[simp] theorem ixR_ok {a b : Opd} {t : Option PV} : ixR a b (.ok t ρ) = gdR a b bIdx t ρ (a.get t ρ) := (rfl)
@[simp] theorem gdR_tup {a b : Opd} {f : PV → PV → Option PV} {t : Option PV} : gdR a b f t ρ (some (.tup xs)) = o2b a b f t (b.go ρ) := (rfl)
@[simp] theorem frz_ins : frz (.ins b k vs) = .ins false k (frzs vs) := by rw [frz]
@[simp] theorem fro_it : fro (.ins true k vs) = false := by rw [fro]; rfl
@[simp] theorem fro_if : fro (.ins false k vs) = fros vs := by rw [fro]; rfl
end Tr.Ev
set_option Elab.async false
set_option linter.all false
set_option autoImplicit false
/-! Tr.Ev4: dicts, more classes, run by simp. -/
namespace Tr.Ev
open Tr
open PySem (Str)
variable {ρ ρ' : Env} {e : PExc} {v w u : PV} {vs ws xs ys : List PV} {tb tc : Tb} {k k' j i m : Nat} {b : Bool}
theorem look_tl {α : Type} {l : List (Nat × α)} {x : α} (h : (k == k') = false) : ((k', x) :: l).lookup k = l.lookup k := by rw [List.lookup_cons, h]
@[simp] theorem fldv_tl (h : (k == k') = false) : fldv ((k', j) :: tb) (.ins b k vs) = fldv tb (.ins b k vs) := by rw [fldv_ins, fldv_ins, look_tl h]
@[simp] theorem pfS_tl (h : (k == k') = false) : pfS i ((k', j) :: tb) v ρ (some (.ins true k vs)) = pfS i tb v ρ (some (.ins true k vs)) := by
  show (match (((k', j) :: tb).lookup k).bind fun j => putFld j v vs with | some ws => SR.nx (ρ.set i (some (.ins true k ws))) | none => SR.bad) = _
  rw [look_tl h]; rfl
@[simp] theorem recv_tl {sem : FF} {mt : MT} (h : (k == k') = false) : recv ((k', sem) :: mt) (some (.ins b k vs)) = recv mt (some (.ins b k vs)) := by
  show List.lookup k ((k', sem) :: mt) = List.lookup k mt
  exact look_tl h
@[simp] theorem dispX_tl {sem : FF} {mt : MT} {as : List PV} (h : (k == k') = false) : dispX ((k', sem) :: mt) (.ins b k vs :: as) = dispX mt (.ins b k vs :: as) := by
  unfold dispX
  rw [show (PV.ins b k vs :: as).head? = some (.ins b k vs) from rfl, recv_tl h]
@[simp] theorem putFld_2n : putFld 2 v [w, u] = some [w, u, v] := (rfl)
/-! dicts -/
@[simp] theorem hasK_nil {x : Key} : hasK [] x = false := (rfl)
@[simp] theorem fro_dt {ks : List Key} {xs : List PV} : fro (.dct true ks xs) = false := by rw [fro]; rfl
end Tr.Ev
set_option Elab.async false
set_option linter.all false
set_option autoImplicit false
set_option maxRecDepth 100000
/-! Tr.Pl: lists told by what stands for their items: enc x for x. -/
namespace Tr.Ev
open Tr
open PySem (Str)
section
variable {α : Type} {enc : α → PV}
theorem fros_enc (h : ∀ x, fro (enc x) = true) (xs : List α) : fros (xs.map enc) = true := by
  induction xs with
  | nil => rfl
  | cons x xs ih => rw [List.map_cons, fros, h, ih]; rfl
theorem frzs_enc (h : ∀ x, fro (enc x) = true) (xs : List α) : frzs (xs.map enc) = xs.map enc := frzs_of_fros (fros_enc h xs)
theorem at_enc {xs : List α} {i : Int} (h0 : 0 ≤ i) (h1 : i < xs.length) : ∃ x, xs[i.toNat]? = some x ∧ x ∈ xs ∧ atI (xs.map enc) i = some (enc x) := by
  have l : i.toNat < xs.length := by omega
  refine ⟨xs[i.toNat], List.getElem?_eq_getElem l, List.getElem_mem l, ?_⟩
  unfold atI ixN
  rw [if_pos h0, List.length_map, if_pos h1, Option.bind_some, List.getElem?_map, List.getElem?_eq_getElem l]
  rfl
theorem ix_encL (h : ∀ x, fro (enc x) = true) {b : Bool} {xs : List α} {i : Int} (h0 : 0 ≤ i) (h1 : i < xs.length) : ∃ x, xs[i.toNat]? = some x ∧ x ∈ xs ∧ ix (.lst b (xs.map enc)) (.int i) = some (enc x) := by
  obtain ⟨x, e1, e2, e3⟩ := at_enc (enc := enc) h0 h1
  exact ⟨x, e1, e2, by show (atI _ _).bind onlyFro = _; rw [e3, Option.bind_some, onlyFro_t (h x)]⟩
theorem ix_lastL (h : ∀ x, fro (enc x) = true) {b : Bool} {xs : List α} (l : xs ≠ []) : ix (.lst b (xs.map enc)) (.int (-1)) = some (enc (xs.getLast l)) := by
  have l0 := List.length_pos_iff.mpr l
  show (atI _ _).bind onlyFro = _
  unfold atI ixN
  rw [if_neg (by decide), List.length_map, if_pos (by omega), Option.bind_some, List.getElem?_map]
  have : ((-1 : Int) + (xs.length : Nat)).toNat = xs.length - 1 := by omega
  rw [this, ← List.getLast?_eq_getElem?, List.getLast?_eq_some_getLast l]
  exact onlyFro_t (h _)
theorem len_encL {b : Bool} {xs : List α} : fLen (.lst b (xs.map enc)) = some (.int (xs.length : Nat)) := by
  show some (PV.int ((xs.map enc).length : Nat)) = _
  rw [List.length_map]
theorem len_encT {xs : List α} : fLen (.tup (xs.map enc)) = some (.int (xs.length : Nat)) := by
  show some (PV.int ((xs.map enc).length : Nat)) = _
  rw [List.length_map]
theorem sIx_nn {n d : Nat} {i : Int} (h0 : 0 ≤ i) : sIx n d (some i) = min i.toNat n := by
  show (if i < 0 then _ else min i.toNat n) = _
  rw [if_neg (by omega)]
theorem cut_to {xs : List PV} {i : Int} (h0 : 0 ≤ i) : cut xs none (some i) = xs.take i.toNat := by
  unfold cut
  rw [sIx_nn h0]
  show List.take (min i.toNat xs.length - 0) (List.drop 0 xs) = _
  rw [List.drop_zero, Nat.sub_zero]
  rcases Nat.le_total i.toNat xs.length with h | h
  · rw [Nat.min_eq_left h]
  · rw [Nat.min_eq_right h, List.take_of_length_le h, List.take_length]
theorem cut_fr {xs : List PV} {i : Int} (h0 : 0 ≤ i) : cut xs (some i) none = xs.drop i.toNat := by
  unfold cut
  rw [sIx_nn h0]
  show List.take (xs.length - min i.toNat xs.length) (List.drop (min i.toNat xs.length) xs) = _
  rcases Nat.le_total i.toNat xs.length with h | h
  · rw [Nat.min_eq_left h, List.take_of_length_le (by simp)]
  · rw [Nat.min_eq_right h, List.drop_length, List.drop_eq_nil_of_le h, List.take_nil]
theorem slL_to (h : ∀ x, fro (enc x) = true) {b : Bool} {xs : List α} {i : Int} (h0 : 0 ≤ i) : sl (.lst b (xs.map enc)) none (some i) = some (.lst true ((xs.take i.toNat).map enc)) := by
  show (if fros (xs.map enc) = true then some (PV.lst true (cut (xs.map enc) none (some i))) else none) = _
  rw [if_pos (fros_enc h xs), cut_to h0, List.map_take]
theorem slL_fr (h : ∀ x, fro (enc x) = true) {b : Bool} {xs : List α} {i : Int} (h0 : 0 ≤ i) : sl (.lst b (xs.map enc)) (some i) none = some (.lst true ((xs.drop i.toNat).map enc)) := by
  show (if fros (xs.map enc) = true then some (PV.lst true (cut (xs.map enc) (some i) none)) else none) = _
  rw [if_pos (fros_enc h xs), cut_fr h0, List.map_drop]
theorem slT_to (h : ∀ x, fro (enc x) = true) {xs : List α} {i : Int} (h0 : 0 ≤ i) : sl (.tup (xs.map enc)) none (some i) = some (.tup ((xs.take i.toNat).map enc)) := by
  show (if fros (xs.map enc) = true then some (PV.tup (cut (xs.map enc) none (some i))) else none) = _
  rw [if_pos (fros_enc h xs), cut_to h0, List.map_take]
theorem slT_fr (h : ∀ x, fro (enc x) = true) {xs : List α} {i : Int} (h0 : 0 ≤ i) : sl (.tup (xs.map enc)) (some i) none = some (.tup ((xs.drop i.toNat).map enc)) := by
  show (if fros (xs.map enc) = true then some (PV.tup (cut (xs.map enc) (some i) none)) else none) = _
  rw [if_pos (fros_enc h xs), cut_fr h0, List.map_drop]
theorem addL_enc (h : ∀ x, fro (enc x) = true) {b d : Bool} {xs ys : List α} (l : xs.length + ys.length ≤ big) : bAdd (.lst b (xs.map enc)) (.lst d (ys.map enc)) = some (.lst true ((xs ++ ys).map enc)) := by
  show (if (fros (xs.map enc) && fros (ys.map enc) && decide ((xs.map enc).length + (ys.map enc).length ≤ big)) = true then some (PV.lst true (xs.map enc ++ ys.map enc)) else none) = _
  rw [if_pos (by rw [fros_enc h, fros_enc h, List.length_map, List.length_map]; simpa using l), List.map_append]
theorem addT_enc (h : ∀ x, fro (enc x) = true) {xs ys : List α} (l : xs.length + ys.length ≤ big) : bAdd (.tup (xs.map enc)) (.tup (ys.map enc)) = some (.tup ((xs ++ ys).map enc)) := by
  show (if (fros (xs.map enc) && fros (ys.map enc) && decide ((xs.map enc).length + (ys.map enc).length ≤ big)) = true then some (PV.tup (xs.map enc ++ ys.map enc)) else none) = _
  rw [if_pos (by rw [fros_enc h, fros_enc h, List.length_map, List.length_map]; simpa using l), List.map_append]
theorem addL_pv {b d : Bool} {xs ys : List PV} (h1 : fros xs = true) (h2 : fros ys = true) (l : xs.length + ys.length ≤ big) : bAdd (.lst b xs) (.lst d ys) = some (.lst true (xs ++ ys)) := by
  show (if (fros xs && fros ys && decide (xs.length + ys.length ≤ big)) = true then some (PV.lst true (xs ++ ys)) else none) = _
  rw [if_pos (by rw [h1, h2]; simpa using l)]
theorem addT_pv {xs ys : List PV} (h1 : fros xs = true) (h2 : fros ys = true) (l : xs.length + ys.length ≤ big) : bAdd (.tup xs) (.tup ys) = some (.tup (xs ++ ys)) := by
  show (if (fros xs && fros ys && decide (xs.length + ys.length ≤ big)) = true then some (PV.tup (xs ++ ys)) else none) = _
  rw [if_pos (by rw [h1, h2]; simpa using l)]
theorem tup_enc (h : ∀ x, fro (enc x) = true) {b : Bool} {xs : List α} : fTuple (.lst b (xs.map enc)) = some (.tup (xs.map enc)) := by
  show (if fros (xs.map enc) = true then _ else _) = _
  rw [if_pos (fros_enc h xs)]
theorem list_encT (h : ∀ x, fro (enc x) = true) {xs : List α} : fList (.tup (xs.map enc)) = some (.lst true (xs.map enc)) := by
  show (if fros (xs.map enc) = true then _ else _) = _
  rw [if_pos (fros_enc h xs)]
theorem list_encL (h : ∀ x, fro (enc x) = true) {b : Bool} {xs : List α} : fList (.lst b (xs.map enc)) = some (.lst true (xs.map enc)) := by
  show (if fros (xs.map enc) = true then _ else _) = _
  rw [if_pos (fros_enc h xs)]
theorem fro_tupE (h : ∀ x, fro (enc x) = true) (xs : List α) : fro (.tup (xs.map enc)) = true := by rw [fro_tup]; exact fros_enc h xs
theorem frz_lstE (h : ∀ x, fro (enc x) = true) {b : Bool} (xs : List α) : frz (.lst b (xs.map enc)) = .lst false (xs.map enc) := by rw [frz, frzs_enc h]
theorem items_lstE (h : ∀ x, fro (enc x) = true) {b : Bool} (xs : List α) : items (frz (.lst b (xs.map enc))) = some (xs.map enc) := by rw [frz_lstE h]; rfl
theorem ne0_enc {b d : Bool} {xs : List α} : cNe0 (.lst b (xs.map enc)) (.lst d []) = some (!xs.isEmpty) := by rw [ne0, List.isEmpty_map]
theorem ixN_nn {n : Nat} {i : Int} (h0 : 0 ≤ i) (h1 : i < n) : ixN n i = some i.toNat := by unfold ixN; rw [if_pos h0, if_pos h1]
theorem er_map : ∀ (xs : List α) (j : Nat), (xs.map enc).eraseIdx j = (xs.eraseIdx j).map enc
  | [], _ => rfl
  | x :: xs, 0 => rfl
  | x :: xs, j + 1 => by
    show enc x :: (xs.map enc).eraseIdx j = enc x :: (xs.eraseIdx j).map enc
    rw [er_map xs j]
theorem pop_enc (h : ∀ x, fro (enc x) = true) {i : Nat} {f : EF} {ρ ρ1 : Env} {xs : List α} {d : Int} {b : Bool} {ys : List PV} (hs : slot ρ i = some (.lst b ys)) (hf : f ρ = .ok (.int d) ρ1) (hs1 : slot ρ1 i = some (.lst true (xs.map enc))) (h0 : 0 ≤ d) (h1 : d < xs.length) :
    ∃ x, xs[d.toNat]? = some x ∧ x ∈ xs ∧ ePop i f ρ = .ok (enc x) (ρ1.set i (some (.lst true ((xs.eraseIdx d.toNat).map enc)))) := by
  have l : d.toNat < xs.length := by omega
  refine ⟨xs[d.toNat], List.getElem?_eq_getElem l, List.getElem_mem l, ?_⟩
  unfold ePop
  rw [hs]
  simp only [hf, Res.bind_ok, hs1]
  rw [List.length_map, ixN_nn h0 h1]
  simp only [List.getElem?_map, List.getElem?_eq_getElem l, Option.map_some]
  rw [if_pos (h _), er_map]
end
theorem strs_all (ws : List Str) : Tr.allS (ws.map PV.str) = some ws := allS_strs ws
theorem frStr : ∀ x, fro (PV.str x) = true := fun _ => rfl
theorem frInt : ∀ x, fro (PV.int x) = true := fun _ => rfl
theorem dat_strs (ws : List Str) : (ws.map PV.str).all (dat deep) = true := by
  rw [List.all_eq_true]
  intro x hx
  obtain ⟨y, _, rfl⟩ := List.mem_map.mp hx
  rfl
theorem any_strs {x : Str} {ws : List Str} : ((ws.map PV.str).any fun y => eqv y (.str x)) = decide (x ∈ ws) := by
  rw [Bool.eq_iff_iff, decide_eq_true_eq, List.any_eq_true]
  constructor
  · rintro ⟨y, hy, h⟩
    obtain ⟨z, hz, rfl⟩ := List.mem_map.mp hy
    have : z = x := by simpa [eqv] using h
    exact this ▸ hz
  · intro h
    exact ⟨_, List.mem_map.mpr ⟨x, h, rfl⟩, by simp [eqv]⟩
theorem inL_strs {x : Str} {ws : List Str} {w : Bool} : cIn (.str x) (.lst w (ws.map .str)) = some (decide (x ∈ ws)) := by
  show (if (dat deep (.str x) && (ws.map PV.str).all (dat deep)) = true then some ((ws.map PV.str).any fun y => eqv y (.str x)) else none) = _
  rw [if_pos (by rw [dat_strs]; rfl), any_strs]
theorem inT_strs {x : Str} {ws : List Str} : cIn (.str x) (.tup (ws.map .str)) = some (decide (x ∈ ws)) := by
  show (if (dat deep (.str x) && (ws.map PV.str).all (dat deep)) = true then some ((ws.map PV.str).any fun y => eqv y (.str x)) else none) = _
  rw [if_pos (by rw [dat_strs]; rfl), any_strs]
theorem niL_strs {x : Str} {ws : List Str} {w : Bool} : cNi (.str x) (.lst w (ws.map .str)) = some (!decide (x ∈ ws)) := by unfold cNi; rw [inL_strs]; rfl
end Tr.Ev
set_option Elab.async false
set_option linter.all false
set_option maxRecDepth 100000
set_option maxHeartbeats 1000000
/-! k22: draws. -/
namespace Law
open PySem (Str)
open Tr Tr.Ev
def pot (a b c : Int) : PV := .lst true [.int a, .int b, .int c]
/-- a pot that draws leave good -/
structure Pot (v : PV) : Prop where
  ok : ∃ a b c, v = pot a b c ∧ 0 ≤ b ∧ b < 1000000000000 ∧ 0 ≤ c ∧ c < 1000000000000
theorem Pot.own {v : PV} (h : Pot v) : fro v = false := by
  obtain ⟨a, b, c, rfl, _⟩ := h.ok
  exact fro_lt
theorem log2_lt {i : Int} {k : Nat} (h0 : 0 ≤ i) (h : i < 2 ^ k) (hk : 0 < k) : i.natAbs.log2 < k := by
  rcases Nat.eq_zero_or_pos i.natAbs with z | z
  · rw [z]; simpa using hk
  · rw [Nat.log2_lt (by omega)]
    have : (i.natAbs : Int) = i := by omega
    have e : ((2 ^ k : Nat) : Int) = 2 ^ k := by simp
    omega
theorem mulOk_lt {i j : Int} (h : i.natAbs.log2 + j.natAbs.log2 < 100000000) : mulOk i j = true := decide_eq_true h
theorem divOk_lt {j : Int} (h0 : 0 < j) (h : j < 2 ^ 200) : divOk j = true := by
  have := log2_lt (by omega) h (by decide)
  unfold divOk
  rw [Bool.and_eq_true]
  exact ⟨decide_eq_true h0, decide_eq_true (by omega)⟩
theorem mul_small {i j : Int} (i0 : 0 ≤ i) (i1 : i < 2 ^ 200) (j0 : 0 ≤ j) (j1 : j < 2 ^ 200) : bMul (.int i) (.int j) = some (.int (i * j)) :=
  mul_ii (mulOk_lt (by have := log2_lt i0 i1 (by decide); have := log2_lt j0 j1 (by decide); omega))
theorem mod_b {x m : Int} (hm : 0 < m) : 0 ≤ x % m ∧ x % m < m := ⟨Int.emod_nonneg _ (by omega), Int.emod_lt_of_pos _ hm⟩
/-- a draw below m -/
theorem draw_ok {v : PV} {m : Int} (h : Pot v) (hm : 0 < m) (hm2 : m < 2 ^ 200) : ∃ d v', f__law_draw [v, .int m] = .ok (.int d) [v', .int m] ∧ 0 ≤ d ∧ d < m ∧ Pot v' := by
  obtain ⟨a, b, c, rfl, b0, b1, c0, c1⟩ := h.ok
  by_cases ha : 0 < a
  · refine ⟨a % m, pot (a / m) b c, ?_, (mod_b hm).1, (mod_b hm).2, ⟨_, _, _, rfl, b0, b1, c0, c1⟩⟩
    have hd := divOk_lt hm hm2
    simp -implicitDefEqProofs [f__law_draw, b__law_draw, mk_eq, pot, div_ii, mod_ii, hm, ha, hd]
  · obtain ⟨s, hs⟩ : ∃ s, s = (b * 40499 + c * c + 7753) % 999999999989 := ⟨_, rfl⟩
    have sb := mod_b (x := b * 40499 + c * c + 7753) (m := 999999999989) (by decide)
    rw [← hs] at sb
    have k1 := mul_small b0 (by omega : b < 2 ^ 200) (by decide : (0 : Int) ≤ 40499) (by decide)
    have k2 := mul_small c0 (by omega : c < 2 ^ 200) c0 (by omega)
    have d5 : bDiv (.int s) (.int 509) = some (.int (s / 509)) := div_ii (by decide +kernel)
    have m5 : bMod (.int (s / 509)) (.int m) = some (.int (s / 509 % m)) := mod_ii hm
    have m9 : bMod (.int (b * 40499 + c * c + 7753)) (.int 999999999989) = some (.int s) := by rw [hs]; exact mod_ii (by decide)
    refine ⟨s / 509 % m, pot a c s, ?_, (mod_b hm).1, (mod_b hm).2, ⟨_, _, _, rfl, c0, c1, sb.1, by omega⟩⟩
    simp -implicitDefEqProofs [f__law_draw, b__law_draw, mk_eq, pot, ha, k1, k2, d5, m5, m9]
end Law
set_option Elab.async false
set_option linter.all false
set_option maxRecDepth 100000
set_option maxHeartbeats 2000000
/-! k22: some of them; words. -/
namespace Law
open PySem (Str)
open Tr Tr.Ev
theorem seq_nx {s u : SF} {ρ ρ1 : Env} {r : SR} (h : s ρ = .nx ρ1) (h2 : u ρ1 = r) : sSeq s u ρ = r := by rw [sSeq_eq, h, at_nx, h2]
theorem range_get {n i : Nat} {x : PV} (h : ((List.range n).map fun i => PV.int (i : Nat))[i]? = some x) : i < n ∧ x = .int (i : Nat) := by
  rw [List.getElem?_map] at h
  rcases Nat.lt_or_ge i n with l | l
  · rw [List.getElem?_range l] at h
    cases h
    exact ⟨l, rfl⟩
  · rw [List.getElem?_eq_none (by simpa using l)] at h; cases h
theorem perm_er {α : Type} : ∀ {l : List α} {d : Nat} {x : α}, l[d]? = some x → l.Perm (x :: l.eraseIdx d)
  | y :: l, 0, x, h => by cases h; exact List.Perm.refl _
  | y :: l, d + 1, x, h => ((perm_er (l := l) (d := d) (by simpa using h)).cons y).trans (List.Perm.swap x y _)
def SB : SF := sApp 4 (ePop 3 (eCall f__law_draw [(.nm 0), (.ev (eP1 fLen (.nm 3)))] []))
section
variable {α : Type} {enc : α → PV}
theorem some_turn (hf : ∀ x, fro (enc x) = true) {p v mv : PV} {pool found : List α} {o5 : Option PV} (h : Pot p) (l0 : 0 < pool.length) (l1 : pool.length < 1000) (l2 : found.length < 1000) :
    ∃ (x : α) (d : Nat) (p' : PV), pool[d]? = some x ∧ SB [some p, some v, some mv, some (.lst true (pool.map enc)), some (.lst true (found.map enc)), o5] =
      .nx [some p', some v, some mv, some (.lst true ((pool.eraseIdx d).map enc)), some (.lst true ((found ++ [x]).map enc)), o5] ∧ Pot p' := by
  obtain ⟨d, p1, e1, d0, d1, h1⟩ := draw_ok (m := (pool.length : Nat)) h (by omega) (by exact Int.lt_trans (by omega : ((pool.length : Nat) : Int) < 1000) (by decide))
  have w := h.own
  have w1 := h1.own
  have ln := len_encL (enc := enc) (b := true) (xs := pool)
  have fr := fros_enc hf pool
  have hc : eCall f__law_draw [(.nm 0), (.ev (eP1 fLen (.nm 3)))] [] [some p, some v, some mv, some (.lst true (pool.map enc)), some (.lst true (found.map enc)), o5] = .ok (.int d) [some p1, some v, some mv, some (.lst true (pool.map enc)), some (.lst true (found.map enc)), o5] := by
    generalize pool.map enc = P at *
    simp -implicitDefEqProofs [ln, e1, w, w1, -len_lst]
  obtain ⟨x, hx, _, ep⟩ := pop_enc hf (i := 3) (f := eCall f__law_draw [(.nm 0), (.ev (eP1 fLen (.nm 3)))] []) (b := true) (ys := pool.map enc) rfl hc rfl d0 d1
  refine ⟨x, d.toNat, p1, hx, ?_, h1⟩
  have big1 : (found.map enc).length < big := by rw [List.length_map]; show _ < 16777216; omega
  unfold SB
  simp only [List.set] at ep
  rw [List.map_append, List.map_cons, List.map_nil]
  generalize pool.map enc = P at *
  generalize (pool.eraseIdx d.toNat).map enc = P2 at *
  generalize found.map enc = G at *
  generalize enc x = X at *
  simp -implicitDefEqProofs [ep, big1]
theorem some_ok (hf : ∀ x, fro (enc x) = true) {p v : PV} {xs : List α} {m : Int} (h : Pot p) (hv : fList v = some (.lst true (xs.map enc))) (h0 : 0 ≤ m) (hx : xs.length < 1000) :
    ∃ (ys : List α) (p' : PV), f__law_some [p, v, .int m] = .ok (.lst true (ys.map enc)) [p', v, .int m] ∧ ys.length = min m.toNat xs.length ∧ (∃ zs, (ys ++ zs).Perm xs) ∧ Pot p' := by
  obtain ⟨n, hn⟩ : ∃ n : Int, n = if ((xs.length : Nat) : Int) < m then ((xs.length : Nat) : Int) else m := ⟨_, rfl⟩
  have n0 : 0 ≤ n ∧ n ≤ xs.length ∧ n.toNat = min m.toNat xs.length := by rw [hn]; split <;> omega
  have mn : fMin2 (.int m) (.int (xs.length : Nat)) = some (.int n) := by rw [hn]; rfl
  obtain ⟨ρ', e, p', pool, found, o5, rfl, lf, hp, hP⟩ := loop_run (b := bN 5) (s := SB) (xs := (List.range n.toNat).map fun i => PV.int (i : Nat)) (ρ := [some p, some v, some (.int m), some (.lst true (xs.map enc)), some (.lst true []), none])
    (fun i ρ => ∃ (p : PV) (pool found : List α) (o5 : Option PV), ρ = [some p, some v, some (.int m), some (.lst true (pool.map enc)), some (.lst true (found.map enc)), o5] ∧ found.length = i ∧ (found ++ pool).Perm xs ∧ Pot p)
    ⟨p, xs, [], none, rfl, rfl, List.Perm.refl _, h⟩ fun i x ρ hxx hq => by
      obtain ⟨p, pool, found, o5, rfl, lf, hp, h⟩ := hq
      obtain ⟨hi, rfl⟩ := range_get hxx
      have hl := hp.length_eq
      rw [List.length_append] at hl
      obtain ⟨y, d, p', hy, e, h'⟩ := some_turn hf (v := v) (mv := .int m) (pool := pool) (found := found) (o5 := some (.int (i : Nat))) h (by omega) (by omega) (by omega)
      refine ⟨_, rfl, .inl ⟨_, e, p', _, _, _, rfl, by rw [List.length_append, lf]; rfl, ?_, h'⟩⟩
      have pe := perm_er hy
      rw [List.append_assoc]
      exact (List.Perm.append_left found pe.symm).trans hp
  rw [List.length_map, List.length_range] at lf
  refine ⟨found, p', ?_, by rw [lf, n0.2.2], ⟨pool, hp⟩, hP⟩
  have hr : iRange1 (eP2 fMin2 (.nm 2) (.ev (eP1 fLen (.nm 3)))) [some p, some v, some (.int m), some (.lst true (xs.map enc)), some (.lst true []), none] = .ok ((List.range n.toNat).map fun i => PV.int (i : Nat)) [some p, some v, some (.int m), some (.lst true (xs.map enc)), some (.lst true []), none] :=
    range1_run (n := n) (by
      have ln := len_encL (enc := enc) (b := true) (xs := xs)
      generalize xs.map enc = P at *
      simp -implicitDefEqProofs [ln, mn, -min_ii, -len_lst]) n0.1 (by omega)
  have e2 := sFor_run hr e
  unfold SB at e2
  have fr := fros_enc hf xs
  simp only [f__law_some, b__law_some]
  rw [mk_eq rfl]
  generalize xs.map enc = P at *
  generalize found.map enc = G at *
  generalize pool.map enc = P2 at *
  simp -implicitDefEqProofs [hv, e2]
end
/-! ### words -/
abbrev LET : Str := "abcdefghijklmnopqrstuvwxyz"
abbrev KY : Str := "key"
abbrev L26 : List Nat := LET.cps.toList
structure WOk (x : Str) : Prop where
  l1 : 1 ≤ x.length
  l8 : x.length ≤ 8
  key : x ≠ KY
  abc : ∀ c ∈ x.cps.toList, c ∈ L26
structure Wrd (x : Str) : Prop where
  l1 : 1 ≤ x.length
  l8 : x.length ≤ 8
  abc : ∀ c ∈ x.cps.toList, c ∈ L26
theorem Wrd.ok {x : Str} (h : Wrd x) (k : x ≠ KY) : WOk x := ⟨h.l1, h.l8, k, h.abc⟩
abbrev ch (c : Nat) : PV := .str ⟨#[c]⟩
theorem frCh : ∀ c, fro (ch c) = true := fun _ => rfl
theorem let_list : L26 = (List.range 26).map (· + 97) := by decide +kernel
theorem l26_len : L26.length = 26 := by decide +kernel
theorem l26_nd : L26.Nodup := by rw [let_list]; decide
def st (ls : List Nat) : Str := ⟨ls.toArray⟩
theorem st_list {ls : List Nat} : (st ls).cps.toList = ls := by unfold st; simp
theorem st_len {ls : List Nat} : (st ls).length = ls.length := by show (st ls).cps.size = _; unfold st; simp
theorem st_of (x : Str) : st x.cps.toList = x := by unfold st; simp
theorem str_ext {x y : Str} (h : x.cps.toList = y.cps.toList) : x = y := by rw [← st_of x, ← st_of y, h]
theorem len_list (x : Str) : x.cps.toList.length = x.length := by show x.cps.toList.length = x.cps.size; simp
theorem join0 : ∀ {ls : List Nat}, (Str.join "" (ls.map fun c => ⟨#[c]⟩)).cps.toList = ls
  | [] => by decide +kernel
  | [c] => rfl
  | c :: d :: ls => by
    have ih := join0 (ls := d :: ls)
    show ((⟨#[c]⟩ ++ ("" : Str) ++ Str.join "" ((d :: ls).map fun c => (⟨#[c]⟩ : Str))) : Str).cps.toList = _
    show ((#[c] ++ ("" : Str).cps) ++ (Str.join "" ((d :: ls).map fun c => (⟨#[c]⟩ : Str))).cps).toList = _
    rw [Array.toList_append, Array.toList_append, ih]
    rfl
theorem join_ch {b : Bool} {ls : List Nat} (h : ls.length ≤ 100) : fJoin (.str "") (.lst b (ls.map ch)) = some (.str (st ls)) := by
  have e0 : Str.join "" (ls.map fun c => (⟨#[c]⟩ : Str)) = st ls := str_ext (by rw [join0, st_list])
  have e : (ls.map ch) = (ls.map fun c => (⟨#[c]⟩ : Str)).map PV.str := by rw [List.map_map]; rfl
  rw [e]
  unfold fJoin
  simp only [strs_all, Option.bind_some]
  rw [if_pos, e0]
  have e1 : ((ls.map fun c => (⟨#[c]⟩ : Str)).map (·.length)) = ls.map fun _ => 1 := by rw [List.map_map]; rfl
  rw [e1]
  have e2 : (ls.map fun _ => 1).sum = ls.length := by
    clear h e e1 e0
    induction ls with
    | nil => rfl
    | cons x l ih => rw [List.map_cons, List.sum_cons, ih, List.length_cons]; omega
  have e3 : ("" : Str).length = 0 := by decide +kernel
  rw [e2, e3]
  unfold big; omega
theorem listS_let : fListS (.str LET) = some (.lst true (L26.map ch)) := rfl
theorem sls_to {x : Str} {i : Int} (h0 : 0 ≤ i) : sl (.str x) none (some i) = some (.str (st (x.cps.toList.take i.toNat))) := by
  show some (PV.str ⟨(cut x.cps.toList none (some i)).toArray⟩) = _
  have : cut x.cps.toList none (some i) = x.cps.toList.take i.toNat := by
    unfold cut
    rw [sIx_nn h0]
    show List.take (min i.toNat x.cps.toList.length - 0) (List.drop 0 x.cps.toList) = _
    rw [List.drop_zero, Nat.sub_zero]
    rcases Nat.le_total i.toNat x.cps.toList.length with h | h
    · rw [Nat.min_eq_left h]
    · rw [Nat.min_eq_right h, List.take_of_length_le h, List.take_length]
  rw [this]; rfl
theorem sls_fr {x : Str} {i : Int} (h0 : 0 ≤ i) : sl (.str x) (some i) none = some (.str (st (x.cps.toList.drop i.toNat))) := by
  show some (PV.str ⟨(cut x.cps.toList (some i) none).toArray⟩) = _
  have : cut x.cps.toList (some i) none = x.cps.toList.drop i.toNat := by
    unfold cut
    rw [sIx_nn h0]
    show List.take (x.cps.toList.length - min i.toNat x.cps.toList.length) (List.drop (min i.toNat x.cps.toList.length) x.cps.toList) = _
    rcases Nat.le_total i.toNat x.cps.toList.length with h | h
    · rw [Nat.min_eq_left h, List.take_of_length_le (by simp)]
    · rw [Nat.min_eq_right h, List.drop_length, List.drop_eq_nil_of_le h, List.take_nil]
  rw [this]; rfl
theorem st_app {ls ms : List Nat} : st ls ++ st ms = st (ls ++ ms) := str_ext (by
  show ((st ls).cps ++ (st ms).cps).toList = _
  rw [Array.toList_append, st_list, st_list, st_list])
theorem add_ss {x y : Str} (h : x.length + y.length ≤ 1000) : bAdd (.str x) (.str y) = some (.str (x ++ y)) := by
  show (if x.length + y.length ≤ big then _ else _) = _
  rw [if_pos (by unfold big; omega)]
end Law
set_option Elab.async false
set_option linter.all false
set_option maxRecDepth 100000
set_option maxHeartbeats 4000000
/-! k22: names. -/
namespace Law
open PySem (Str)
open Tr Tr.Ev
abbrev NE (p : PV) (m : Int) (ws : List Str) (a4 a5 a6 a7 a8 a9 : Option PV) : Env := [some p, some (.int m), some (.lst true (L26.map ch)), some (.lst true (ws.map .str)), a4, a5, a6, a7, a8, a9]
section
variable {p : PV} {m : Int} {ws : List Str} {a4 a5 a6 a7 a8 a9 : Option PV}
theorem letter {d : Int} (h0 : 0 ≤ d) (h1 : d < 26) : ∃ c ∈ L26, ix (.lst true (L26.map ch)) (.int d) = some (ch c) := by
  obtain ⟨c, _, hc, e⟩ := ix_encL frCh (b := true) (xs := L26) h0 (by rw [l26_len]; exact h1)
  exact ⟨c, hc, e⟩
theorem word_comp (h : Pot p) : ∃ (ls : List Nat) (p' : PV), eComp [8] (iRange1 (eP2 bAdd (.ev (eC (.int 1))) (.ev (eCall f__law_draw [(.nm 0), (.ev (eC (.int 8)))] [])))) (bN 8) tYes (eP2 ix (.nm 2) (.ev (eCall f__law_draw [(.nm 0), (.ev (eC (.int 26)))] []))) (NE p m ws a4 a5 a6 a7 none a9) =
    .ok (.lst true (ls.map ch)) (NE p' m ws a4 a5 a6 a7 none a9) ∧ 1 ≤ ls.length ∧ ls.length ≤ 8 ∧ (∀ c ∈ ls, c ∈ L26) ∧ Pot p' := by
  obtain ⟨d, p1, e1, d0, d1, h1⟩ := draw_ok (m := 8) h (by decide) (by decide)
  obtain ⟨vs, ρ', e, p', ls, rfl, rfl, l, hc, h'⟩ := comp_run (own := [8]) (b := bN 8) (f := eP2 ix (.nm 2) (.ev (eCall f__law_draw [(.nm 0), (.ev (eC (.int 26)))] []))) (xs := (List.range (1 + d).toNat).map fun i => PV.int (i : Nat)) (ρ := NE p1 m ws a4 a5 a6 a7 none a9)
    (fun i ρ vs => ∃ (p : PV) (ls : List Nat), ρ = NE p m ws a4 a5 a6 a7 none a9 ∧ vs = ls.map ch ∧ ls.length = i ∧ (∀ c ∈ ls, c ∈ L26) ∧ Pot p)
    ⟨p1, [], rfl, rfl, rfl, (fun _ h => by cases h), h1⟩ fun i x ρ vs hx hp => by
      obtain ⟨p, ls, rfl, rfl, rfl, hc, hp⟩ := hp
      obtain ⟨c, p2, e2, c0, c1, h2⟩ := draw_ok (m := 26) hp (by decide) (by decide)
      obtain ⟨z, hz, ez⟩ := letter c0 c1
      have ow := hp.own
      have ow2 := h2.own
      refine ⟨NE p m ws a4 a5 a6 a7 (some x) a9, ch z, NE p2 m ws a4 a5 a6 a7 (some x) a9, rfl, ?_, p2, ls ++ [z], rfl, by simp, by simp, ?_, h2⟩
      · unfold NE
        generalize L26.map ch = Lt at *
        generalize ws.map PV.str = B at *
        simp -implicitDefEqProofs [e2, ez, ow, ow2, -ix_l]
      · intro y hy
        rcases List.mem_append.mp hy with hy | hy
        · exact hc y hy
        · rw [List.mem_singleton.mp hy]; exact hz
  rw [List.length_map, List.length_range] at l
  refine ⟨ls, p', ?_, by omega, by omega, hc, h'⟩
  have w := h.own
  have w1 := h1.own
  have hr : iRange1 (eP2 bAdd (.ev (eC (.int 1))) (.ev (eCall f__law_draw [(.nm 0), (.ev (eC (.int 8)))] []))) (NE p m ws a4 a5 a6 a7 none a9) = .ok ((List.range (1 + d).toNat).map fun i => PV.int (i : Nat)) (NE p1 m ws a4 a5 a6 a7 none a9) :=
    range1_run (n := 1 + d) (by
      unfold NE
      generalize L26.map ch = Lt at *
      generalize ws.map PV.str = B at *
      simp -implicitDefEqProofs [e1, w, w1]) (by omega) (by omega)
  have r := eComp_run (own := [8]) hr (by exact e)
  rw [r]
  unfold NE
  simp -implicitDefEqProofs
def NBA : SF := (sIf (tAnd (tPV2 cNe0 (.nm 3) (.ev (eLst aNil))) (tPV2 cEq (.ev (eCall f__law_draw [(.nm 0), (.ev (eC (.int 2)))] [])) (.ev (eC (.int 0))))) (sSeq (sPar2 6 7 (aCons (eP2 ix (.nm 3) (.ev (eP1 uNeg (.ev (eC (.int 1)))))) (aCons (eCall f__law_draw [(.nm 0), (.ev (eP1 fLen (.ev (eP2 ix (.nm 3) (.ev (eP1 uNeg (.ev (eC (.int 1)))))))))] []) aNil)))
    (sSet 5 (eP2 bAdd (.ev (eP2 bAdd (.ev (eSl (.nm 6) none (some (eNm 7)))) (.ev (eP2 ix (.nm 2) (.ev (eCall f__law_draw [(.nm 0), (.ev (eC (.int 26)))] [])))))) (.ev (eSl (.nm 6) (some (eP2 bAdd (.nm 7) (.ev (eC (.int 1))))) none))))) sNx)
def NBB : SF := (sIf (tOr (tPV2 cIn (.nm 5) (.nm 3)) (tPV2 cEq (.nm 5) (.ev (eC (.str "key"))))) (sSet 5 (eP2 ix (.ev (eCompN [9] 2 (bN 9) (tPV2 cNi (.nm 9) (.nm 3)) (eNm 9))) (.ev (eCall f__law_draw [(.nm 0), (.ev (eC (.int 20)))] [])))) sNx)
theorem mix_wrd {w : Str} {c : Nat} {d : Int} (h : Wrd w) (hc : c ∈ L26) (d0 : 0 ≤ d) (d1 : d < w.length) : Wrd (st (w.cps.toList.take d.toNat ++ [c] ++ w.cps.toList.drop (d.toNat + 1))) := by
  have hl := len_list w
  have l : (st (w.cps.toList.take d.toNat ++ [c] ++ w.cps.toList.drop (d.toNat + 1))).length = w.length := by
    rw [st_len, List.length_append, List.length_append, List.length_take, List.length_drop, List.length_singleton, hl]; omega
  refine ⟨by rw [l]; exact h.l1, by rw [l]; exact h.l8, fun z hz => ?_⟩
  rw [st_list] at hz
  rcases List.mem_append.mp hz with hz | hz
  · rcases List.mem_append.mp hz with hz | hz
    · exact h.abc z (List.mem_of_mem_take hz)
    · rw [List.mem_singleton.mp hz]; exact hc
  · exact h.abc z (List.mem_of_mem_drop hz)
theorem nba_ok {w : Str} (h : Pot p) (hw : Wrd w) (hs : ∀ x ∈ ws, Wrd x) : ∃ (w' : Str) (p' : PV) (o6 o7 : Option PV), NBA (NE p m ws a4 (some (.str w)) a6 a7 none none) = .nx (NE p' m ws a4 (some (.str w')) o6 o7 none none) ∧ Wrd w' ∧ Pot p' := by
  have n0 := ne0_enc (enc := PV.str) (b := true) (d := true) (xs := ws)
  have fw := fros_enc frStr ws
  by_cases e : ws = []
  · subst e
    refine ⟨w, p, a6, a7, ?_, hw, h⟩
    rw [show (!([] : List Str).isEmpty) = false from rfl] at n0
    unfold NBA NE
    generalize L26.map ch = Lt at *
    generalize List.map PV.str [] = B at *
    simp -implicitDefEqProofs [n0]
  · have l0 : 0 < ws.length := List.length_pos_iff.mpr e
    rw [show (!ws.isEmpty) = true by cases ws with | nil => exact absurd rfl e | cons => rfl] at n0
    obtain ⟨d, p1, e1, d0, d1, h1⟩ := draw_ok (m := 2) h (by decide) (by decide)
    have w0 := h.own
    have w1 := h1.own
    by_cases z : d = 0
    · subst z
      have il := ix_lastL frStr (b := true) e
      have ho := hs _ (List.getLast_mem e)
      generalize ws.getLast e = old at il ho
      obtain ⟨q, p2, e2, q0, q1, h2⟩ := draw_ok (m := (old.length : Nat)) h1 (by have := ho.l1; omega) (by exact Int.lt_trans (by have := ho.l8; omega : ((old.length : Nat) : Int) < 100) (by decide))
      obtain ⟨y, p3, e3, y0, y1, h3⟩ := draw_ok (m := 26) h2 (by decide) (by decide)
      obtain ⟨c, hc, ec⟩ := letter y0 y1
      have hm := mix_wrd ho hc q0 q1
      have s1 := sls_to (x := old) (i := q) q0
      have s2 := sls_fr (x := old) (i := q + 1) (by omega)
      have hl := len_list old
      have a1 : bAdd (.str (st (old.cps.toList.take q.toNat))) (ch c) = some (.str (st (old.cps.toList.take q.toNat ++ [c]))) := by
        have := add_ss (x := st (old.cps.toList.take q.toNat)) (y := st [c]) (by rw [st_len, st_len, List.length_take, List.length_singleton]; have := ho.l8; omega)
        rw [st_app] at this; exact this
      have a2 : bAdd (.str (st (old.cps.toList.take q.toNat ++ [c]))) (.str (st (old.cps.toList.drop (q + 1).toNat))) = some (.str (st (old.cps.toList.take q.toNat ++ [c] ++ old.cps.toList.drop (q.toNat + 1)))) := by
        rw [show (q + 1).toNat = q.toNat + 1 by omega]
        rw [add_ss (by rw [st_len, st_len, List.length_append, List.length_take, List.length_drop, List.length_singleton]; have := ho.l8; omega), st_app]
      have w2 := h2.own
      have w3 := h3.own
      have c0 : cEq (.int 0) (.int 0) = some true := rfl
      refine ⟨_, p3, some (.str old), some (.int q), ?_, hm, h3⟩
      unfold NBA NE
      generalize L26.map ch = Lt at *
      generalize ws.map PV.str = B at *
      generalize st (old.cps.toList.take q.toNat ++ [c] ++ old.cps.toList.drop (q.toNat + 1)) = w9 at *
      generalize st (old.cps.toList.take q.toNat ++ [c]) = w8 at *
      generalize st (old.cps.toList.take q.toNat) = w7 at *
      generalize st (old.cps.toList.drop (q + 1).toNat) = w6 at *
      simp -implicitDefEqProofs [n0, e1, e2, e3, c0, il, ec, s1, s2, a1, a2, fw, w0, w1, w2, w3, -ix_l]
    · have c0 : cEq (.int d) (.int 0) = some false := congrArg some (decide_eq_false z)
      refine ⟨w, p1, a6, a7, ?_, hw, h1⟩
      unfold NBA NE
      generalize L26.map ch = Lt at *
      generalize ws.map PV.str = B at *
      simp -implicitDefEqProofs [n0, e1, c0, w0, w1, fw]
theorem sub_len : ∀ {l m : List Str}, l.Nodup → (∀ x ∈ l, x ∈ m) → l.length ≤ m.length
  | [], m, _, _ => Nat.zero_le _
  | x :: l, m, nd, h => by
    obtain ⟨h1, h2⟩ := List.nodup_cons.mp nd
    have hx := h x List.mem_cons_self
    have := sub_len (l := l) (m := m.erase x) h2 fun y hy => (List.mem_erase_of_ne (fun e => h1 (by rw [← e]; exact hy))).mpr (h y (List.mem_cons_of_mem _ hy))
    rw [List.length_erase_of_mem hx] at this
    have := List.length_pos_of_mem hx
    rw [List.length_cons]; omega
theorem free_len (hw : ws.length ≤ 6) : 20 ≤ (L26.filter fun c => !decide (st [c] ∈ ws)).length := by
  have h1 : ((L26.filter fun c => decide (st [c] ∈ ws)).map fun c => st [c]).length ≤ ws.length := by
    refine sub_len ?_ fun x hx => ?_
    · refine List.pairwise_map.mpr ((l26_nd.sublist List.filter_sublist).imp fun {a b} h e => h ?_)
      have := congrArg (fun x : Str => x.cps.toList) e
      simp only [st_list] at this
      exact (List.cons.inj this).1
    · obtain ⟨c, hc, rfl⟩ := List.mem_map.mp hx
      simpa using (List.mem_filter.mp hc).2
  rw [List.length_map] at h1
  have h2 := (List.filter_append_perm (fun c => decide (st [c] ∈ ws)) L26).length_eq
  rw [List.length_append, l26_len] at h2
  omega
theorem nbb_ok {w : Str} (h : Pot p) (hw : Wrd w) (l6 : ws.length ≤ 6) : ∃ (w' : Str) (p' : PV), NBB (NE p m ws a4 (some (.str w)) a6 a7 none none) = .nx (NE p' m ws a4 (some (.str w')) a6 a7 none none) ∧ WOk w' ∧ w' ∉ ws ∧ Pot p' := by
  have in1 := inL_strs (x := w) (ws := ws) (w := true)
  have eqk : cEq (.str w) (.str "key") = some (decide (w = KY)) := eq_ss
  have fw := fros_enc frStr ws
  have w0 := h.own
  by_cases bad : w ∈ ws ∨ w = KY
  · have core := comp_pure (own := [9]) (b := bN 9) (t := tPV2 cNi (.nm 9) (.nm 3)) (f := eNm 9) (ρ := [some p, some (.int m), none, some (.lst true (ws.map .str)), a4, some (.str w), a6, a7, none, none]) ch (fun c => !decide (st [c] ∈ ws)) ch (l := L26) fun c hc => by
      have n1 : cNi (ch c) (.lst true (ws.map .str)) = some (!decide (st [c] ∈ ws)) := niL_strs (x := st [c])
      refine ⟨[some p, some (.int m), none, some (.lst true (ws.map .str)), a4, some (.str w), a6, a7, none, some (ch c)], [some p, some (.int m), none, some (.lst true (ws.map .str)), a4, some (.str w), a6, a7, none, some (ch c)], rfl, ?_, fun _ => rfl, fun _ => ⟨_, rfl, rfl⟩⟩
      generalize ws.map PV.str = B at *
      simp -implicitDefEqProofs [n1]
    have cm := eCompN_own (own := [9]) (i := 2) (b := bN 9) (t := tPV2 cNi (.nm 9) (.nm 3)) (f := eNm 9) (ρ := NE p m ws a4 (some (.str w)) a6 a7 none none) (v := .lst true (L26.map ch)) rfl rfl rfl (fros_enc frCh _) core
    have fl := free_len l6
    obtain ⟨d, p1, e1, d0, d1, h1⟩ := draw_ok (m := 20) h (by decide) (by decide)
    obtain ⟨c, _, hc, ec⟩ := ix_encL frCh (b := true) (xs := L26.filter fun c => !decide (st [c] ∈ ws)) d0 (by omega)
    have hc1 := (List.mem_filter.mp hc).1
    have hc2 : st [c] ∉ ws := by simpa using (List.mem_filter.mp hc).2
    have w1 := h1.own
    have wk : Wrd (st [c]) := ⟨by rw [st_len]; simp, by rw [st_len]; simp, fun z hz => by rw [st_list] at hz; rw [List.mem_singleton.mp hz]; exact hc1⟩
    have nk : st [c] ≠ KY := fun e => by
      have := congrArg Str.length e
      have k3 : KY.length = 3 := by decide +kernel
      rw [st_len, k3] at this
      cases this
    refine ⟨st [c], p1, ?_, wk.ok nk, hc2, h1⟩
    have cm : eCompN [9] 2 (bN 9) (tPV2 cNi (.nm 9) (.nm 3)) (eNm 9) (NE p m ws a4 (some (.str w)) a6 a7 none none) = .ok (.lst true ((L26.filter fun c => !decide (st [c] ∈ ws)).map ch)) (NE p m ws a4 (some (.str w)) a6 a7 none none) := cm
    have es : ch c = .str (st [c]) := rfl
    unfold NBB
    unfold NE at *
    generalize (L26.filter fun c => !decide (st [c] ∈ ws)).map ch = G at *
    generalize L26.map ch = Lt at *
    generalize ws.map PV.str = B at *
    rw [es] at ec
    rcases bad with q | q
    · rw [decide_eq_true q] at in1
      simp -implicitDefEqProofs [in1, cm, e1, ec, w0, w1, -ix_l]
    · rw [decide_eq_true q] at eqk
      by_cases q2 : w ∈ ws
      · rw [decide_eq_true q2] at in1
        simp -implicitDefEqProofs [in1, cm, e1, ec, w0, w1, -ix_l]
      · rw [decide_eq_false q2] at in1
        simp -implicitDefEqProofs [in1, eqk, cm, e1, ec, w0, w1, -ix_l]
  · have b1 : w ∉ ws := fun q => bad (.inl q)
    have b2 : w ≠ KY := fun q => bad (.inr q)
    rw [decide_eq_false b1] at in1
    rw [decide_eq_false b2] at eqk
    refine ⟨w, p, ?_, hw.ok b2, b1, h⟩
    unfold NBB NE
    generalize L26.map ch = Lt at *
    generalize ws.map PV.str = B at *
    simp -implicitDefEqProofs [in1, eqk]
theorem WOk.wrd {x : Str} (h : WOk x) : Wrd x := ⟨h.l1, h.l8, h.abc⟩
def NTB : SF := (sSeq (sSet 5 (eP1 (fJoin (.str "")) (.ev (eComp [8] (iRange1 (eP2 bAdd (.ev (eC (.int 1))) (.ev (eCall f__law_draw [(.nm 0), (.ev (eC (.int 8)))] [])))) (bN 8) tYes (eP2 ix (.nm 2) (.ev (eCall f__law_draw [(.nm 0), (.ev (eC (.int 26)))] [])))))))
    (sSeq NBA (sSeq NBB (sApp 3 (eNm 5)))))
theorem names_turn (h : Pot p) (hs : ∀ x ∈ ws, WOk x) (l6 : ws.length ≤ 6) : ∃ (w : Str) (p' : PV) (o5 o6 o7 : Option PV), NTB (NE p m ws a4 a5 a6 a7 none none) = .nx (NE p' m (ws ++ [w]) a4 o5 o6 o7 none none) ∧ WOk w ∧ w ∉ ws ∧ Pot p' := by
  obtain ⟨ls, p1, e1, l1, l8, hc, h1⟩ := word_comp (m := m) (ws := ws) (a4 := a4) (a5 := a5) (a6 := a6) (a7 := a7) (a9 := none) h
  have wd : Wrd (st ls) := ⟨by rw [st_len]; exact l1, by rw [st_len]; exact l8, by rw [st_list]; exact hc⟩
  obtain ⟨w2, p2, o6, o7, e2, hw2, h2⟩ := nba_ok (m := m) (ws := ws) (a4 := a4) (a6 := a6) (a7 := a7) h1 wd fun x hx => (hs x hx).wrd
  obtain ⟨w3, p3, e3, hw3, n3, h3⟩ := nbb_ok (m := m) (ws := ws) (a4 := a4) (a6 := o6) (a7 := o7) h2 hw2 l6
  have jn := join_ch (b := true) (ls := ls) (by omega)
  have bg : (ws.map PV.str).length < big := by rw [List.length_map]; show _ < 16777216; omega
  refine ⟨w3, p3, some (.str w3), o6, o7, ?_, hw3, n3, h3⟩
  have s1 : sSet 5 (eP1 (fJoin (.str "")) (.ev (eComp [8] (iRange1 (eP2 bAdd (.ev (eC (.int 1))) (.ev (eCall f__law_draw [(.nm 0), (.ev (eC (.int 8)))] [])))) (bN 8) tYes (eP2 ix (.nm 2) (.ev (eCall f__law_draw [(.nm 0), (.ev (eC (.int 26)))] [])))))) (NE p m ws a4 a5 a6 a7 none none) = .nx (NE p1 m ws a4 (some (.str (st ls))) a6 a7 none none) := by
    unfold NE at *
    generalize ls.map ch = G at *
    generalize L26.map ch = Lt at *
    generalize ws.map PV.str = B at *
    simp -implicitDefEqProofs [e1, jn]
  unfold NTB
  refine seq_nx s1 (seq_nx e2 (seq_nx e3 ?_))
  unfold NE
  rw [List.map_append, List.map_cons, List.map_nil]
  generalize L26.map ch = Lt at *
  generalize ws.map PV.str = B at *
  simp -implicitDefEqProofs [bg]
end
theorem names_ok {p : PV} {m : Int} (h : Pot p) (hm : 0 ≤ m) (hm2 : m ≤ 7) : ∃ (ws : List Str) (p' : PV), f__law_names [p, .int m] = .ok (.tup (ws.map .str)) [p', .int m] ∧ ws.length = m.toNat ∧ (∀ x ∈ ws, WOk x) ∧ ws.Nodup ∧ Pot p' := by
  obtain ⟨ρ', e, p', ws, o4, o5, o6, o7, rfl, l, hw, nd, h'⟩ := loop_run (b := bN 4) (s := NTB) (xs := (List.range m.toNat).map fun i => PV.int (i : Nat)) (ρ := NE p m [] none none none none none none)
    (fun i ρ => ∃ (p : PV) (ws : List Str) (o4 o5 o6 o7 : Option PV), ρ = NE p m ws o4 o5 o6 o7 none none ∧ ws.length = i ∧ (∀ x ∈ ws, WOk x) ∧ ws.Nodup ∧ Pot p)
    ⟨p, [], none, none, none, none, rfl, rfl, (fun _ z => by cases z), List.nodup_nil, h⟩ fun i x ρ hx hq => by
      obtain ⟨p, ws, o4, o5, o6, o7, rfl, l, hw, nd, h⟩ := hq
      obtain ⟨hi, rfl⟩ := range_get hx
      obtain ⟨w, p', q5, q6, q7, e, ww, nw, h'⟩ := names_turn (m := m) (a4 := some (.int (i : Nat))) (a5 := o5) (a6 := o6) (a7 := o7) h hw (by omega)
      refine ⟨_, rfl, .inl ⟨_, e, p', ws ++ [w], _, _, _, _, rfl, by rw [List.length_append, l]; rfl, fun y hy => ?_, ?_, h'⟩⟩
      · rcases List.mem_append.mp hy with hy | hy
        · exact hw y hy
        · rw [List.mem_singleton.mp hy]; exact ww
      · rw [List.nodup_append]
        exact ⟨nd, by simp, fun a ha b hb e => nw (by rw [← List.mem_singleton.mp hb, ← e]; exact ha)⟩
  rw [List.length_map, List.length_range] at l
  refine ⟨ws, p', ?_, l, hw, nd, h'⟩
  have hr : iRange1 (eNm 1) (NE p m [] none none none none none none) = .ok ((List.range m.toNat).map fun i => PV.int (i : Nat)) (NE p m [] none none none none none none) :=
    range1_run (n := m) (by unfold NE; generalize L26.map ch = Lt at *; simp -implicitDefEqProofs) hm (by omega)
  have e2 := sFor_run hr e
  have tp := tup_enc frStr (b := true) (xs := ws)
  unfold NTB NBA NBB at e2
  simp only [f__law_names, b__law_names]
  rw [mk_eq rfl]
  have ls := listS_let
  unfold NE at e2
  rw [List.map_nil] at e2
  generalize L26.map ch = Lt at *
  generalize ws.map PV.str = B at *
  simp -implicitDefEqProofs [ls, e2, tp]
end Law
set_option Elab.async false
set_option linter.all false
set_option maxRecDepth 100000
set_option maxHeartbeats 4000000
namespace Law
open PySem (Str)
open Tr Tr.Ev
theorem strs_map (ws : List Str) : Tr.allS (ws.map PV.str) = some ws := by
  induction ws with
  | nil => rfl
  | cons x ws ih => rw [List.map_cons, Tr.allS, ih]; rfl
theorem bls_map (bs : List Bool) : Tr.bls (bs.map PV.bl) = some bs := by
  induction bs with
  | nil => rfl
  | cons x bs ih => rw [List.map_cons, Tr.bls, ih]; rfl
theorem all_run {w : Bool} (bs : List Bool) : fAll (.lst w (bs.map .bl)) = some (.bl (bs.all id)) := by
  show (Tr.bls (bs.map PV.bl)).map _ = _
  rw [bls_map]; rfl
theorem filter_t {α : Type} (l : List α) : (l.filter fun _ => true) = l := List.filter_eq_self.mpr fun _ _ => rfl
@[simp] theorem isa_int {i : Int} : isA .int (.int i) = some true := rfl
@[simp] theorem isa_bi {i : Int} : isA .bool (.int i) = some false := rfl
@[simp] theorem isa_ss {x : Str} : isA .str (.str x) = some true := rfl
@[simp] theorem isa_tt {xs : List PV} : isA .tuple (.tup xs) = some true := rfl
theorem dcount_nd {xs : List Str} (h : xs.Nodup) : ∀ i, i ≤ xs.length → dcount xs i = i
  | 0, _ => rfl
  | i + 1, hi => by
    rw [dcount, dcount_nd h i (by omega)]
    rw [if_neg]
    intro q
    obtain ⟨y, hy, e⟩ := List.any_eq_true.mp q
    have e' : y = xs[i] := by
      rw [List.getD_eq_getElem?_getD, List.getElem?_eq_getElem (by omega)] at e
      simpa using e
    obtain ⟨j, hj, ej⟩ := List.mem_iff_getElem.mp hy
    have hj' : j < i := by rw [List.length_take] at hj; omega
    rw [List.getElem_take] at ej
    exact List.pairwise_iff_getElem.mp h j i (by omega) (by omega) hj' (ej.trans e')
theorem lenset_ok {ws : List Str} (nd : ws.Nodup) (hl : ws.length ≤ 60) : fLenSetS (.tup (ws.map .str)) = some (.int (ws.length : Nat)) := by
  show ((Tr.allS (ws.map PV.str)).bind fun ss => if decide (ss.length ≤ 60) = true then some (PV.int (dcount ss ss.length : Nat)) else none) = _
  rw [strs_map, Option.bind_some, if_pos (by simpa using hl), dcount_nd nd _ (Nat.le_refl _)]
theorem distinct_ok {ws : List Str} (nd : ws.Nodup) (hl : ws.length ≤ 60) : f_are_distinct [.tup (ws.map .str)] = .ok (.bl true) [.tup (ws.map .str)] := by
  simp only [f_are_distinct, b_are_distinct]
  rw [mk_eq rfl]
  simp -implicitDefEqProofs [lenset_ok nd hl, eq_ii]
structure Sy (f : FF) (v : PV) (b : Bool) : Prop where
  e : f [v] = .ok (.bl b) [v]
  fr : fro v = true
theorem slot_set {ρ : Env} {j : Nat} {v : PV} (h : j < ρ.length) : slot (ρ.set j (some v)) j = some v := by
  unfold slot; rw [List.getElem?_set_self h]; rfl
theorem call_says {f : FF} {v : PV} {b : Bool} (h : Sy f v b) {j : Nat} {ρ : Env} (hs : slot ρ j = some v) : eCall f [.nm j] [] ρ = .ok (.bl b) ρ := by
  have e := h.e
  have fr := h.fr
  simp -implicitDefEqProofs [hs, e, fr]
theorem says_comp {f : FF} {zs : List (PV × Bool)} (h : ∀ z ∈ zs, Sy f z.1 z.2) {i j : Nat} {ρ : Env} (hi : slot ρ i = some (.tup (zs.map (·.1)))) (hj : ρ[j]? = some none) :
    eCompN [j] i (bN j) tYes (eCall f [.nm j] []) ρ = .ok (.lst true ((zs.map (·.2)).map .bl)) ρ := by
  have hl := (List.getElem?_eq_some_iff.mp hj).1
  have fx : fros (zs.map (·.1)) = true := by
    rw [fros_eq, List.all_eq_true]
    intro x hx
    obtain ⟨z, hz, rfl⟩ := List.mem_map.mp hx
    exact (h z hz).fr
  have w : wipeE [j] ρ = ρ := by simp [set_same hj]
  have c : compL [j] (bN j) tYes (eCall f [.nm j] []) (zs.map (·.1)) (wipeE [j] ρ) = .ok ((zs.filter fun _ => true).map fun z => PV.bl z.2) ρ := by
    rw [w]
    refine comp_pure (fun z : PV × Bool => z.1) (fun _ => true) (fun z => PV.bl z.2) fun z hz => ⟨ρ.set j (some z.1), ρ.set j (some z.1), rfl, rfl, (fun e => by cases e), fun _ => ⟨_, call_says (h z hz) (slot_set hl), ?_⟩⟩
    rw [wipe_cons, wipe_nil, List.set_set, set_same hj]
  have e := eCompN_fro (own := [j]) (i := i) (ρ := ρ) (v := .tup (zs.map (·.1))) hi rfl (by simp [fx]) fx c
  have sn : slot ρ j = none := by unfold slot; rw [hj]; rfl
  rw [e, filter_t, List.map_map]
  simp [sn]
theorem eqvs_map {α : Type} [DecidableEq α] (f : α → PV) (h : ∀ x y, eqv (f x) (f y) = decide (x = y)) : ∀ xs ys : List α, eqvs (xs.map f) (ys.map f) = decide (xs = ys)
  | [], [] => rfl
  | [], y :: ys => by simp [eqvs]
  | x :: xs, [] => by simp [eqvs]
  | x :: xs, y :: ys => by
    rw [List.map_cons, List.map_cons, eqvs, h, eqvs_map f h xs ys]
    rw [Bool.eq_iff_iff]
    simp
theorem eqv_str (x y : Str) : eqv (.str x) (.str y) = decide (x = y) := by
  rw [eqv, Bool.eq_iff_iff]; simp
section
variable {hs : List Str}
theorem eq_heads {a b : List Str} : cEq (.tup (a.map .str)) (.tup (b.map .str)) = some (decide (a = b)) := by
  unfold cEq
  have d : ∀ a : List Str, dat deep (.tup (a.map .str)) = true := fun a => by
    show (a.map PV.str).all (dat 19) = true
    rw [List.all_eq_true]
    intro x hx
    obtain ⟨y, _, rfl⟩ := List.mem_map.mp hx
    rfl
  rw [d, d]
  show some (eqvs _ _) = _
  rw [eqvs_map PV.str eqv_str]
end
theorem pick_any {xs : List PV} {b : Bool} {d : Int} (hf : fros xs = true) (h0 : 0 ≤ d) (h1 : d < xs.length) : ∃ x ∈ xs, ix (.lst b xs) (.int d) = some x ∧ fro x = true := by
  have l : d.toNat < xs.length := by omega
  have fx : fro xs[d.toNat] = true := List.all_eq_true.mp (by rw [← fros_eq]; exact hf) _ (List.getElem_mem l)
  refine ⟨xs[d.toNat], List.getElem_mem l, ?_, fx⟩
  show (atI _ _).bind onlyFro = _
  unfold atI
  rw [ixN_nn h0 h1, Option.bind_some, List.getElem?_eq_getElem l]
  exact onlyFro_t fx
end Law
set_option Elab.async false
set_option linter.all false
set_option maxRecDepth 100000
set_option maxHeartbeats 4000000
/-! k22: the parts of a joining. -/
namespace Law
open PySem (Str)
open Tr Tr.Ev
structure Prt where
  by_ : List Str
  to : List (Str × Str)
  which : Str
  unmet : Str
  left : Str
  fresh : List Str
  where_ : Str
def wv (q : Str × Str) : PV := .tup [.str q.1, .str q.2]
theorem frWv : ∀ q, fro (wv q) = true := fun _ => rfl
def ptv (P : Prt) : PV := .tup [.tup (P.by_.map .str), .tup (P.to.map wv), .str P.which, .str P.unmet, .str P.left, .tup (P.fresh.map .str), .str P.where_]
abbrev MANYS : List Str := ["all", "first", "none", "refuse"]
abbrev NEWS : List Str := ["skip", "make", "refuse"]
abbrev GONES : List Str := ["keep", "drop"]
abbrev BLS : List Str := ["keep", "clear"]
abbrev SCOPES : List Str := ["sent", "all"]
structure PrtOk (ns : List Str) (P : Prt) : Prop where
  b : ∀ x ∈ P.by_, x ∈ ns ∨ x = KY
  bn : P.by_.Nodup
  b1 : P.by_ ≠ []
  t : ∀ q ∈ P.to, q.1 ∈ ns ∧ q.1 ≠ KY ∧ q.2 ∈ BLS
  tn : (P.to.map (·.1)).Nodup
  w : P.which ∈ MANYS
  u : P.unmet ∈ NEWS
  l : P.left ∈ GONES
  f : ∀ x ∈ P.fresh, x ∈ ns
  fn : P.fresh.Nodup
  s : P.where_ ∈ SCOPES
theorem pick_str {ks : List Str} {d : Int} (h0 : 0 ≤ d) (h1 : d < ks.length) : ∃ k ∈ ks, ix (.lst true (ks.map .str)) (.int d) = some (.str k) := by
  obtain ⟨k, _, m, e⟩ := ix_encL frStr (b := true) (xs := ks) h0 h1
  exact ⟨k, m, e⟩
abbrev PE13 (p : PV) (ns : List Str) (b : Bool) (a3 a4 a5 a6 a7 a8 a9 a10 a11 a12 : Option PV) : Env := [some p, some (.tup (ns.map .str)), some (.bl b), a3, a4, a5, a6, a7, a8, a9, a10, a11, a12]
section
variable {p : PV} {ns : List Str} {b : Bool} {a3 a4 a5 a6 a7 a8 a9 a10 a11 a12 : Option PV}
theorem plain_comp : eCompN [12] 1 (bN 12) (tPV2 cNe (.nm 12) (.ev (eC (.str "key")))) (eNm 12) (PE13 p ns b a3 a4 a5 a6 a7 a8 a9 a10 a11 none) = .ok (.lst true ((ns.filter fun x => !decide (x = KY)).map .str)) (PE13 p ns b a3 a4 a5 a6 a7 a8 a9 a10 a11 none) := by
  have core : ∀ o1 : Option PV, compL [12] (bN 12) (tPV2 cNe (.nm 12) (.ev (eC (.str "key")))) (eNm 12) (ns.map .str) [some p, o1, some (.bl b), a3, a4, a5, a6, a7, a8, a9, a10, a11, none] = .ok ((ns.filter fun x => !decide (x = KY)).map .str) [some p, o1, some (.bl b), a3, a4, a5, a6, a7, a8, a9, a10, a11, none] := fun o1 =>
    comp_pure (own := [12]) (b := bN 12) (t := tPV2 cNe (.nm 12) (.ev (eC (.str "key")))) (f := eNm 12) (ρ := [some p, o1, some (.bl b), a3, a4, a5, a6, a7, a8, a9, a10, a11, none]) PV.str (fun x => !decide (x = KY)) PV.str (l := ns) fun x mx => by
      have ne : cNe (.str x) (.str "key") = some (!decide (x = KY)) := ne_ss
      refine ⟨[some p, o1, some (.bl b), a3, a4, a5, a6, a7, a8, a9, a10, a11, some (.str x)], [some p, o1, some (.bl b), a3, a4, a5, a6, a7, a8, a9, a10, a11, some (.str x)], rfl, ?_, fun _ => rfl, fun _ => ⟨_, rfl, rfl⟩⟩
      simp -implicitDefEqProofs [ne]
  exact eCompN_fro (own := [12]) (i := 1) (ρ := PE13 p ns b a3 a4 a5 a6 a7 a8 a9 a10 a11 none) (v := .tup (ns.map .str)) rfl rfl (fro_tupE frStr ns) (fros_enc frStr ns) (core (some (.tup (ns.map .str))))
theorem to_comp (h : Pot p) (xs : List Str) : ∃ (qs : List (Str × Str)) (p' : PV), compL [12] (bN 12) tYes (eTup (aCons (eNm 12) (aCons (eP2 ix (.ev (eLst (aCons (eC (.str "keep")) (aCons (eC (.str "clear")) aNil)))) (.ev (eCall f__law_draw [(.nm 0), (.ev (eC (.int 2)))] []))) aNil))) (xs.map .str) (PE13 p ns b a3 a4 a5 a6 a7 a8 a9 a10 a11 none) = .ok (qs.map wv) (PE13 p' ns b a3 a4 a5 a6 a7 a8 a9 a10 a11 none) ∧
    qs.map (·.1) = xs ∧ (∀ q ∈ qs, q.2 ∈ BLS) ∧ Pot p' := by
  obtain ⟨vs, ρ', e, p', qs, rfl, rfl, l, hg, h'⟩ := comp_run (own := [12]) (b := bN 12) (f := eTup (aCons (eNm 12) (aCons (eP2 ix (.ev (eLst (aCons (eC (.str "keep")) (aCons (eC (.str "clear")) aNil)))) (.ev (eCall f__law_draw [(.nm 0), (.ev (eC (.int 2)))] []))) aNil))) (xs := xs.map PV.str) (ρ := PE13 p ns b a3 a4 a5 a6 a7 a8 a9 a10 a11 none)
    (fun i ρ vs => ∃ (p : PV) (qs : List (Str × Str)), ρ = PE13 p ns b a3 a4 a5 a6 a7 a8 a9 a10 a11 none ∧ vs = qs.map wv ∧ qs.map (·.1) = xs.take i ∧ (∀ q ∈ qs, q.2 ∈ BLS) ∧ Pot p)
    ⟨p, [], rfl, rfl, rfl, (fun _ h => by cases h), h⟩ fun i x ρ vs hx hp => by
      obtain ⟨p, qs, rfl, rfl, l, hg, hp⟩ := hp
      have hi : i < xs.length := by have := (List.getElem?_eq_some_iff.mp hx).1; rwa [List.length_map] at this
      have hx2 : xs[i]? = some xs[i] := List.getElem?_eq_getElem hi
      rw [List.getElem?_map, hx2] at hx
      cases hx
      obtain ⟨d, p1, e1, d0, d1, h1⟩ := draw_ok (m := 2) hp (by decide) (by decide)
      obtain ⟨k, mk, ek⟩ := pick_str (ks := BLS) d0 d1
      have ek : ix (.lst true [.str "keep", .str "clear"]) (.int d) = some (.str k) := ek
      have ow := hp.own
      have ow1 := h1.own
      refine ⟨PE13 p ns b a3 a4 a5 a6 a7 a8 a9 a10 a11 (some (.str xs[i])), wv (xs[i], k), PE13 p1 ns b a3 a4 a5 a6 a7 a8 a9 a10 a11 (some (.str xs[i])), rfl, ?_, p1, qs ++ [(xs[i], k)], rfl, by simp, ?_, ?_, h1⟩
      · unfold PE13 wv
        generalize ns.map PV.str = W at *
        generalize xs[i] = x at *
        simp -implicitDefEqProofs [e1, ek, ow, ow1, -ix_l]
      · rw [List.map_append, l, List.take_succ, hx2]; rfl
      · intro q hq
        rcases List.mem_append.mp hq with hq | hq
        · exact hg q hq
        · rw [List.mem_singleton.mp hq]; exact mk
  rw [List.length_map, List.take_length] at l
  exact ⟨qs, p', e, l, hg, h'⟩
/-- the key put among names -/
def withKy (xs : List Str) (n : Nat) : List Str := xs.take n ++ [KY] ++ xs.drop n
theorem withKy_perm {xs : List Str} {n : Nat} : (withKy xs n).Perm (KY :: xs) := by
  unfold withKy
  rw [List.append_assoc]
  refine List.perm_append_comm.trans ?_
  rw [List.append_assoc]
  refine List.Perm.cons _ ?_
  have := (List.perm_append_comm (l₁ := xs.drop n) (l₂ := xs.take n)).trans (by rw [List.take_append_drop])
  simpa using this
def PB5 : SF := (sIf (tE (eNm 2)) (sSeq (sSet 4 (eCall f__law_some [(.nm 0), (.nm 3), (.ev (eCall f__law_draw [(.nm 0), (.ev (eC (.int 3)))] []))] []))
    (sSeq (sSet 5 (eCall f__law_draw [(.nm 0), (.ev (eP2 bAdd (.ev (eP1 fLen (.nm 4))) (.ev (eC (.int 1)))))] []))
    (sSet 4 (eP2 bAdd (.ev (eP2 bAdd (.ev (eSl (.nm 4) none (some (eNm 5)))) (.ev (eLst (aCons (eC (.str "key")) aNil))))) (.ev (eSl (.nm 4) (some (eNm 5)) none)))))) sNx)
theorem by_ok (h : Pot p) (nd : ns.Nodup) (l1 : ns ≠ []) (l7 : ns.length ≤ 7) :
    ∃ (bs : List Str) (p' : PV) (o5 : Option PV), sSeq (sSet 4 (eCall f__law_some [(.nm 0), (.nm 1), (.ev (eP2 bAdd (.ev (eC (.int 1))) (.ev (eCall f__law_draw [(.nm 0), (.ev (eC (.int 2)))] []))))] [])) PB5 (PE13 p ns b (some (.lst true ((ns.filter fun x => !decide (x = KY)).map .str))) none none none none none none none none none) =
      .nx (PE13 p' ns b (some (.lst true ((ns.filter fun x => !decide (x = KY)).map .str))) (some (.lst true (bs.map .str))) o5 none none none none none none none) ∧ (∀ x ∈ bs, x ∈ ns ∨ x = KY) ∧ bs.Nodup ∧ bs ≠ [] ∧ Pot p' := by
  obtain ⟨d, p1, e1, d0, d1, h1⟩ := draw_ok (m := 2) h (by decide) (by decide)
  obtain ⟨ys, p2, e2, ly, ⟨zs, py⟩, h2⟩ := some_ok frStr (v := .tup (ns.map .str)) (xs := ns) (m := 1 + d) h1 (list_encT frStr) (by omega) (by omega)
  have w0 := h.own
  have w1 := h1.own
  have w2 := h2.own
  have fn := fros_enc frStr ns
  have l0 := List.length_pos_iff.mpr l1
  obtain ⟨pl, hpl⟩ : ∃ pl, pl = ns.filter fun x => !decide (x = KY) := ⟨_, rfl⟩
  rw [← hpl]
  have s1 : sSet 4 (eCall f__law_some [(.nm 0), (.nm 1), (.ev (eP2 bAdd (.ev (eC (.int 1))) (.ev (eCall f__law_draw [(.nm 0), (.ev (eC (.int 2)))] []))))] []) (PE13 p ns b (some (.lst true (pl.map .str))) none none none none none none none none none) = .nx (PE13 p2 ns b (some (.lst true (pl.map .str))) (some (.lst true (ys.map .str))) none none none none none none none none) := by
    unfold PE13
    generalize ns.map PV.str = W at *
    generalize ys.map PV.str = Y at *
    generalize pl.map PV.str = L at *
    simp -implicitDefEqProofs [e1, e2, w0, w1, w2, fn]
  have ndy : ys.Nodup := (List.nodup_append.mp (py.nodup_iff.mpr nd)).1
  have my : ∀ x ∈ ys, x ∈ ns := fun x hx => py.mem_iff.mp (List.mem_append_left _ hx)
  by_cases bb : b = true
  · subst bb
    obtain ⟨f, p3, e3, f0, f1, h3⟩ := draw_ok (m := 3) h2 (by decide) (by decide)
    have lpl : pl.length ≤ 7 := by
      rw [hpl]
      have : (ns.filter fun x => !decide (x = KY)).length ≤ ns.length := List.length_filter_le _ _
      omega
    obtain ⟨us, p4, e4, lu, ⟨vs, pu⟩, h4⟩ := some_ok frStr (v := .lst true (pl.map .str)) (xs := pl) (m := f) h3 (list_encL frStr) f0 (by omega)
    obtain ⟨g, p5, e5, g0, g1, h5⟩ := draw_ok (m := (us.length : Nat) + 1) h4 (by omega) (by omega)
    have w3 := h3.own
    have w4 := h4.own
    have w5 := h5.own
    have ln := len_encL (enc := PV.str) (b := true) (xs := us)
    have t1 := slL_to frStr (b := true) (xs := us) g0
    have t2 := slL_fr frStr (b := true) (xs := us) g0
    have a1 := addL_enc frStr (b := true) (d := true) (xs := us.take g.toNat) (ys := [KY]) (by rw [List.length_take, List.length_singleton]; unfold big; omega)
    have a1 : bAdd (.lst true ((us.take g.toNat).map .str)) (.lst true [.str "key"]) = some (.lst true ((us.take g.toNat ++ [KY]).map .str)) := a1
    have a2 := addL_enc frStr (b := true) (d := true) (xs := us.take g.toNat ++ [KY]) (ys := us.drop g.toNat) (by rw [List.length_append, List.length_take, List.length_drop, List.length_singleton]; unfold big; omega)
    have a2 : bAdd (.lst true ((us.take g.toNat ++ [KY]).map .str)) (.lst true ((us.drop g.toNat).map .str)) = some (.lst true ((withKy us g.toNat).map .str)) := a2
    have fu := fros_enc frStr us
    have fp := fros_enc frStr pl
    have ndp : pl.Nodup := by rw [hpl]; exact nd.sublist List.filter_sublist
    have ndu : us.Nodup := (List.nodup_append.mp (pu.nodup_iff.mpr ndp)).1
    have mu : ∀ x ∈ us, x ∈ ns ∧ x ≠ KY := fun x hx => by
      have := pu.mem_iff.mp (List.mem_append_left _ hx)
      rw [hpl] at this
      obtain ⟨m1, m2⟩ := List.mem_filter.mp this
      exact ⟨m1, by simpa using m2⟩
    have pk := withKy_perm (xs := us) (n := g.toNat)
    refine ⟨withKy us g.toNat, p5, some (.int g), seq_nx s1 ?_, fun x hx => ?_, pk.nodup_iff.mpr (List.nodup_cons.mpr ⟨fun z => (mu _ z).2 rfl, ndu⟩), fun z => ?_, h5⟩
    · unfold PB5 PE13
      generalize ns.map PV.str = W at *
      generalize ys.map PV.str = Y at *
      generalize pl.map PV.str = L at *
      generalize (withKy us g.toNat).map PV.str = K at *
      generalize (us.take g.toNat ++ [KY]).map PV.str = K1 at *
      generalize (us.take g.toNat).map PV.str = K2 at *
      generalize (us.drop g.toNat).map PV.str = K3 at *
      generalize us.map PV.str = U at *
      simp -implicitDefEqProofs [e3, e4, e5, ln, t1, t2, a1, a2, w2, w3, w4, w5, fp, fu, fn, -len_lst]
    · rcases List.mem_cons.mp (pk.mem_iff.mp hx) with rfl | m
      · exact .inr rfl
      · exact .inl (mu x m).1
    · have := pk.length_eq
      rw [z] at this; cases this
  · have bf : b = false := by simpa using bb
    subst bf
    refine ⟨ys, p2, none, seq_nx s1 ?_, (fun x hx => .inl (my x hx)), ndy, fun z => ?_, h2⟩
    · unfold PB5 PE13
      generalize ns.map PV.str = W at *
      generalize ys.map PV.str = Y at *
      generalize pl.map PV.str = L at *
      simp -implicitDefEqProofs
    · rw [z] at ly
      simp at ly
      omega
theorem parts_draw (h : Pot p) (nd : ns.Nodup) (l1 : ns ≠ []) (l7 : ns.length ≤ 7) :
    ∃ (P : Prt) (p' : PV), f__law_parts [p, .tup (ns.map .str), .bl b] = .ok (ptv P) [p', .tup (ns.map .str), .bl b] ∧ PrtOk ns P ∧ Pot p' := by
  obtain ⟨pl, hpl⟩ : ∃ pl, pl = ns.filter fun x => !decide (x = KY) := ⟨_, rfl⟩
  have cm := plain_comp (p := p) (ns := ns) (b := b) (a3 := none) (a4 := none) (a5 := none) (a6 := none) (a7 := none) (a8 := none) (a9 := none) (a10 := none) (a11 := none)
  obtain ⟨bs, p1, o5, e1, mb, nb, b1, h1⟩ := by_ok h nd l1 l7
  rw [← hpl] at cm e1
  have lpl : pl.length ≤ 7 := by
    rw [hpl]
    have : (ns.filter fun x => !decide (x = KY)).length ≤ ns.length := List.length_filter_le _ _
    omega
  obtain ⟨d, p2, e2, d0, d1, h2⟩ := draw_ok (m := 7) h1 (by decide) (by decide)
  obtain ⟨us, p3, e3, lu, ⟨vs, pu⟩, h3⟩ := some_ok frStr (v := .lst true (pl.map .str)) (xs := pl) (m := d) h2 (list_encL frStr) d0 (by omega)
  obtain ⟨qs, p4, e4, hq, hb, h4⟩ := to_comp (ns := ns) (b := b) (a3 := some (.lst true (pl.map .str))) (a4 := some (.lst true (bs.map .str))) (a5 := o5) (a6 := none) (a7 := none) (a8 := none) (a9 := none) (a10 := none) (a11 := none) h3 us
  obtain ⟨x1, p5, e5, y1, z1, h5⟩ := draw_ok (m := 4) h4 (by decide) (by decide)
  obtain ⟨x2, p6, e6, y2, z2, h6⟩ := draw_ok (m := 3) h5 (by decide) (by decide)
  obtain ⟨x3, p7, e7, y3, z3, h7⟩ := draw_ok (m := 2) h6 (by decide) (by decide)
  obtain ⟨x4, p8, e8, y4, z4, h8⟩ := draw_ok (m := 2) h7 (by decide) (by decide)
  obtain ⟨x5, p9, e9, y5, z5, h9⟩ := draw_ok (m := 4) h8 (by decide) (by decide)
  obtain ⟨k1, m1, i1⟩ := pick_str (ks := MANYS) y1 z1
  obtain ⟨k2, m2, i2⟩ := pick_str (ks := NEWS) y2 z2
  obtain ⟨k3, m3, i3⟩ := pick_str (ks := GONES) y3 z3
  obtain ⟨k4, m4, i4⟩ := pick_str (ks := SCOPES) y4 z4
  have i1 : ix (.lst true [.str "all", .str "first", .str "none", .str "refuse"]) (.int x1) = some (.str k1) := i1
  have i2 : ix (.lst true [.str "skip", .str "make", .str "refuse"]) (.int x2) = some (.str k2) := i2
  have i3 : ix (.lst true [.str "keep", .str "drop"]) (.int x3) = some (.str k3) := i3
  have i4 : ix (.lst true [.str "sent", .str "all"]) (.int x4) = some (.str k4) := i4
  obtain ⟨v, mv, i5, _⟩ := pick_any (xs := [.int 0, .int 0, .int 1, .int 3]) (b := true) rfl y5 z5
  obtain ⟨n, rfl, n0⟩ : ∃ n : Int, v = .int n ∧ 0 ≤ n := by
    simp only [List.mem_cons, List.not_mem_nil, or_false] at mv
    rcases mv with rfl | rfl | rfl | rfl <;> exact ⟨_, rfl, by decide⟩
  obtain ⟨fs, p10, e10, lf, ⟨gs, pf⟩, h10⟩ := some_ok frStr (v := .tup (ns.map .str)) (xs := ns) (m := n) h9 (list_encT frStr) n0 (by omega)
  have ndf : fs.Nodup := (List.nodup_append.mp (pf.nodup_iff.mpr nd)).1
  have mf : ∀ x ∈ fs, x ∈ ns := fun x hx => pf.mem_iff.mp (List.mem_append_left _ hx)
  have ndp : pl.Nodup := by rw [hpl]; exact nd.sublist List.filter_sublist
  have ndu : us.Nodup := (List.nodup_append.mp (pu.nodup_iff.mpr ndp)).1
  have mu : ∀ x ∈ us, x ∈ ns ∧ x ≠ KY := fun x hx => by
    have := pu.mem_iff.mp (List.mem_append_left _ hx)
    rw [hpl] at this
    obtain ⟨m1, m2⟩ := List.mem_filter.mp this
    exact ⟨m1, by simpa using m2⟩
  have w0 := h.own
  have w1 := h1.own
  have w2 := h2.own
  have w3 := h3.own
  have w4 := h4.own
  have w5 := h5.own
  have w6 := h6.own
  have w7 := h7.own
  have w8 := h8.own
  have w9 := h9.own
  have w10 := h10.own
  have fn := fros_enc frStr ns
  have fp := fros_enc frStr pl
  refine ⟨⟨bs, qs, k1, k2, k3, fs, k4⟩, p10, ?_, ⟨mb, nb, b1, fun q mq => ?_, by rw [hq]; exact ndu, m1, m2, m3, mf, ndf, m4⟩, h10⟩
  · -- the run
    have itm := items_lstE frStr (b := true) us
    have hwk : iE (eCall f__law_some [(.nm 0), (.nm 3), (.ev (eCall f__law_draw [(.nm 0), (.ev (eC (.int 7)))] []))] []) (PE13 p1 ns b (some (.lst true (pl.map .str))) (some (.lst true (bs.map .str))) o5 none none none none none none none) = .ok (us.map .str) (PE13 p3 ns b (some (.lst true (pl.map .str))) (some (.lst true (bs.map .str))) o5 none none none none none none none) := by
      refine iE_run (v := .lst true (us.map .str)) ?_ itm
      unfold PE13
      generalize ns.map PV.str = W at *
      generalize pl.map PV.str = L at *
      generalize us.map PV.str = U at *
      simp -implicitDefEqProofs [e2, e3, w1, w2, w3, fp]
    have ct := eComp_run (own := [12]) hwk (by exact e4)
    have ct : eComp [12] (iE (eCall f__law_some [(.nm 0), (.nm 3), (.ev (eCall f__law_draw [(.nm 0), (.ev (eC (.int 7)))] []))] [])) (bN 12) tYes (eTup (aCons (eNm 12) (aCons (eP2 ix (.ev (eLst (aCons (eC (.str "keep")) (aCons (eC (.str "clear")) aNil)))) (.ev (eCall f__law_draw [(.nm 0), (.ev (eC (.int 2)))] []))) aNil))) (PE13 p1 ns b (some (.lst true (pl.map .str))) (some (.lst true (bs.map .str))) o5 none none none none none none none) = .ok (.lst true (qs.map wv)) (PE13 p4 ns b (some (.lst true (pl.map .str))) (some (.lst true (bs.map .str))) o5 none none none none none none none) := ct
    have tb := tup_enc frStr (b := true) (xs := bs)
    have tq := tup_enc frWv (b := true) (xs := qs)
    have tf := tup_enc frStr (b := true) (xs := fs)
    unfold ptv
    simp only
    unfold PB5 at e1
    simp only [f__law_parts, b__law_parts]
    rw [mk_eq rfl]
    have e1 := e1
    rw [sSeq_eq] at e1
    have fb := fros_enc frStr bs
    have fq := fros_enc frWv qs
    have ff := fros_enc frStr fs
    unfold PE13 at *
    simp only [List.map_cons, List.map_nil, List.length_cons, List.length_nil, List.cons_append, List.nil_append, List.replicate]
    obtain ⟨ρ4, r4, r5⟩ : ∃ ρ4, sSet 4 (eCall f__law_some [(.nm 0), (.nm 1), (.ev (eP2 bAdd (.ev (eC (.int 1))) (.ev (eCall f__law_draw [(.nm 0), (.ev (eC (.int 2)))] []))))] []) [some p, some (PV.tup (List.map PV.str ns)), some (PV.bl b), some (PV.lst true (List.map PV.str pl)), none, none, none, none, none, none, none, none, none] = .nx ρ4 ∧ PB5 ρ4 = .nx [some p1, some (PV.tup (List.map PV.str ns)), some (PV.bl b), some (PV.lst true (List.map PV.str pl)), some (.lst true (bs.map .str)), o5, none, none, none, none, none, none, none] := by
      cases q : sSet 4 (eCall f__law_some [(.nm 0), (.nm 1), (.ev (eP2 bAdd (.ev (eC (.int 1))) (.ev (eCall f__law_draw [(.nm 0), (.ev (eC (.int 2)))] []))))] []) [some p, some (PV.tup (List.map PV.str ns)), some (PV.bl b), some (PV.lst true (List.map PV.str pl)), none, none, none, none, none, none, none, none, none] with
      | nx ρ4 => rw [q, at_nx] at e1; exact ⟨ρ4, rfl, e1⟩
      | _ => rw [q] at e1; cases e1
    have s0 : sSet 3 (eCompN [12] 1 (bN 12) (tPV2 cNe (.nm 12) (.ev (eC (.str "key")))) (eNm 12)) [some p, some (PV.tup (List.map PV.str ns)), some (PV.bl b), none, none, none, none, none, none, none, none, none, none] = .nx [some p, some (PV.tup (List.map PV.str ns)), some (PV.bl b), some (PV.lst true (List.map PV.str pl)), none, none, none, none, none, none, none, none, none] := by
      generalize ns.map PV.str = W at *
      generalize pl.map PV.str = L at *
      simp -implicitDefEqProofs [cm]
    rw [seq_nx s0 rfl, seq_nx r4 rfl]
    have r5 := r5
    unfold PB5 at r5
    rw [seq_nx r5 rfl]
    generalize ns.map PV.str = W at *
    generalize pl.map PV.str = L at *
    generalize bs.map PV.str = B at *
    generalize fs.map PV.str = G at *
    generalize qs.map wv = Q at *
    simp -implicitDefEqProofs [ct, e5, e6, e7, e8, e9, e10, i1, i2, i3, i4, i5, tb, tq, tf, w4, w5, w6, w7, w8, w9, w10, fn, fb, fq, ff, -ix_l]
  · have m : q.1 ∈ us := by rw [← hq]; exact List.mem_map.mpr ⟨q, mq, rfl⟩
    exact ⟨(mu _ m).1, (mu _ m).2, hb q mq⟩
end
end Law
set_option Elab.async false
set_option linter.all false
set_option maxRecDepth 100000
set_option maxHeartbeats 4000000
/-! k22: what is_name, is_item, are_items say of any value. -/
namespace Law
open PySem (Str)
open Tr Tr.Ev
def lf : PV → Bool
  | .con _ => false
  | .exc .. => false
  | .st .. => false
  | .ins .. => false
  | _ => true
/-- a value that the checks may be asked of -/
structure P1 (v : PV) : Prop where
  fr : fro v = true
  lf : lf v = true
def isT : PV → Bool
  | .tup _ => true
  | _ => false
def isS : PV → Bool
  | .str _ => true
  | _ => false
theorem isa_str_any {v : PV} (h : lf v = true) : isA .str v = some (isS v) := by
  cases v <;> first | rfl | cases h
theorem isa_tup_any {v : PV} (h : lf v = true) : isA .tuple v = some (isT v) := by
  cases v <;> first | rfl | cases h
def okW (x : Str) : Bool := decide (1 ≤ x.length) && (decide (x.length ≤ 8) && x.cps.toList.all fun c => decide (c ∈ L26))
def nameB : PV → Bool
  | .str x => okW x && !decide (x = KY)
  | _ => false
def itemB : PV → Bool
  | .str x => okW x
  | _ => false
theorem isS_ex {v : PV} (h : isS v = true) : ∃ x, v = .str x := by cases v <;> first | exact ⟨_, rfl⟩ | cases h
theorem isT_ex {v : PV} (h : isT v = true) : ∃ xs, v = .tup xs := by cases v <;> first | exact ⟨_, rfl⟩ | cases h
theorem nameB_f {v : PV} (h : isS v = false) : nameB v = false := by cases v <;> first | rfl | cases h
theorem itemB_f {v : PV} (h : isS v = false) : itemB v = false := by cases v <;> first | rfl | cases h
theorem okW_key : okW KY = true := by decide +kernel
theorem cin_abc {c : Nat} : cIn (.str ⟨#[c]⟩) (.str LET) = some (decide (c ∈ L26)) := by
  show (if (⟨#[c]⟩ : Str).length = 1 then some (decide ((⟨#[c]⟩ : Str).cps.getD 0 0 ∈ LET.cps.toList)) else none) = _
  rw [if_pos (show (⟨#[c]⟩ : Str).length = 1 from rfl)]
  rfl
theorem name_any {v : PV} (h : P1 v) : Sy f_is_name v (nameB v) := by
  refine ⟨?_, h.fr⟩
  have q := isa_str_any h.lf
  have fr := h.fr
  by_cases ss : isS v = true
  · obtain ⟨x, rfl⟩ := isS_ex ss
    have core := comp_pure (own := [1]) (b := bN 1) (t := tYes) (f := eT (tPV2 cIn (.nm 1) (.ev (eC (.str LET))))) (ρ := [some (.str x), none]) (fun c : Nat => PV.str ⟨#[c]⟩) (fun _ => true) (fun c => PV.bl (decide (c ∈ L26))) (l := x.cps.toList) fun c hc => by
      refine ⟨[some (.str x), some (.str ⟨#[c]⟩)], _, rfl, rfl, (fun h => by cases h), fun _ => ⟨[some (.str x), some (.str ⟨#[c]⟩)], ?_, by simp⟩⟩
      simp -implicitDefEqProofs [cin_abc]
    have e1 : iS (eNm 0) [some (.str x), none] = .ok (x.cps.toList.map fun c => .str ⟨#[c]⟩) [some (.str x), none] := by
      unfold iS
      simp -implicitDefEqProofs
    have e2 := eComp_run (own := [1]) e1 core
    have e3 : ((x.cps.toList.filter fun _ => true).map fun c => PV.bl (decide (c ∈ L26))) = (x.cps.toList.map fun c => decide (c ∈ L26)).map PV.bl := by rw [filter_t, List.map_map]; rfl
    rw [e3] at e2
    have e4 : (x.cps.toList.map fun c => decide (c ∈ L26)).all id = (x.cps.toList.all fun c => decide (c ∈ L26)) := by rw [List.all_map]; rfl
    show _ = FR.ok (.bl (okW x && !decide (x = KY))) _
    unfold okW
    rw [← e4]
    generalize (x.cps.toList.map fun c => decide (c ∈ L26)) = bs at e2 ⊢
    simp only [f_is_name, b_is_name]
    rw [mk_eq rfl]
    by_cases k : x = ("key" : Str)
    · subst k
      have l : ((("key" : Str)).length : Int) = 3 := by decide +kernel
      have l' : (("key" : Str)).length = 3 := by decide +kernel
      simp -implicitDefEqProofs [l, l', eq_ss]
    · by_cases h1 : 1 ≤ x.length
      · by_cases h8 : x.length ≤ 8
        · have l1 : (1 : Int) ≤ x.length := by omega
          have l8 : (x.length : Int) ≤ 8 := by omega
          simp -implicitDefEqProofs [l1, l8, h1, h8, eq_ss, k, e2, all_run]
        · have l1 : (1 : Int) ≤ x.length := by omega
          have l8 : ¬ (x.length : Int) ≤ 8 := by omega
          simp -implicitDefEqProofs [l1, l8, h1, h8, eq_ss, k, e2, all_run]
      · have l1 : ¬ (1 : Int) ≤ x.length := by omega
        simp -implicitDefEqProofs [l1, h1, eq_ss, k, e2, all_run]
  · have sf : isS v = false := by simpa using ss
    rw [sf] at q
    rw [nameB_f sf]
    simp only [f_is_name, b_is_name]
    rw [mk_eq rfl]
    simp -implicitDefEqProofs [q]
theorem item_any {v : PV} (h : P1 v) : Sy f_is_item v (itemB v) := by
  refine ⟨?_, h.fr⟩
  have e := (name_any h).e
  have q := isa_str_any h.lf
  have fr := h.fr
  simp only [f_is_item, b_is_item]
  rw [mk_eq rfl]
  by_cases ss : isS v = true
  · obtain ⟨x, rfl⟩ := isS_ex ss
    by_cases k : x = ("key" : Str)
    · subst k
      have : itemB (.str ("key" : Str)) = true := okW_key
      have n : nameB (.str ("key" : Str)) = false := by show (okW KY && !decide (KY = KY)) = false; simp
      rw [n] at e
      rw [this]
      simp -implicitDefEqProofs [eOr, eAnd, e, eq_ss]
    · have n : nameB (.str x) = itemB (.str x) := by show (okW x && !decide (x = KY)) = okW x; have k' : ¬ x = KY := k; simp [k']
      rw [n] at e
      generalize itemB (.str x) = bb at *
      cases bb <;> simp -implicitDefEqProofs [eOr, eAnd, e, eq_ss, k]
  · have sf : isS v = false := by simpa using ss
    rw [sf] at q
    rw [nameB_f sf] at e
    rw [itemB_f sf]
    simp -implicitDefEqProofs [eOr, eAnd, e, q, fr]
def sv : PV → Str
  | .str x => x
  | _ => ""
def itemsB (k : Bool) : PV → Bool
  | .tup xs => (xs.all fun x => itemB x && (k || !decide (sv x = KY))) && decide (xs.map sv).Nodup
  | _ => false
theorem itemsB_f {k : Bool} {v : PV} (h : isT v = false) : itemsB k v = false := by cases v <;> first | rfl | cases h
theorem strs_of {xs : List PV} (h : ∀ x ∈ xs, isS x = true) : xs = (xs.map sv).map .str := by
  rw [List.map_map]
  conv => lhs; rw [← List.map_id xs]
  refine List.map_congr_left fun x hx => ?_
  have := h x hx
  cases x <;> first | rfl | cases this
theorem isS_item {x : PV} (h : itemB x = true) : isS x = true := by cases x <;> first | cases h | rfl
theorem map_sv {ws : List Str} : (ws.map PV.str).map sv = ws := by rw [List.map_map]; exact List.map_id ws
theorem dcount_full {xs : List Str} : ∀ i, i ≤ xs.length → dcount xs i = i → (xs.take i).Nodup
  | 0, _, _ => by simp
  | i + 1, hi, h => by
    rw [dcount] at h
    have le := dcount_le xs i
    split at h
    · omega
    · rename_i ne
      have nd := dcount_full (xs := xs) i (by omega) (by omega)
      have hi' : i < xs.length := hi
      rw [List.take_succ, List.getElem?_eq_getElem (l := xs) (i := i) hi']
      rw [List.nodup_append]
      refine ⟨nd, by simp, fun a ha b hb e => ne ?_⟩
      simp at hb
      rw [List.any_eq_true]
      refine ⟨a, ha, ?_⟩
      rw [List.getD_eq_getElem?_getD, List.getElem?_eq_getElem (l := xs) (i := i) hi', e, hb]
      simp
theorem distinct_no {ws : List Str} (nd : ¬ ws.Nodup) (hl : ws.length ≤ 60) : f_are_distinct [.tup (ws.map .str)] = .ok (.bl false) [.tup (ws.map .str)] := by
  have lt : ¬ dcount ws ws.length = ws.length := fun e => nd (by have := dcount_full ws.length (Nat.le_refl _) e; rwa [List.take_length] at this)
  have e : fLenSetS (.tup (ws.map .str)) = some (.int (dcount ws ws.length : Nat)) := by
    show ((Tr.allS (ws.map PV.str)).bind fun ss => if decide (ss.length ≤ 60) = true then some (PV.int (dcount ss ss.length : Nat)) else none) = _
    rw [strs_map, Option.bind_some, if_pos (by simpa using hl)]
  have ne : ¬ ((dcount ws ws.length : Nat) : Int) = (ws.length : Nat) := by omega
  simp only [f_are_distinct, b_are_distinct]
  rw [mk_eq rfl]
  simp -implicitDefEqProofs [e, eq_ii, ne]
theorem distinct_any {ws : List Str} (hl : ws.length ≤ 60) : f_are_distinct [.tup (ws.map .str)] = .ok (.bl (decide ws.Nodup)) [.tup (ws.map .str)] := by
  by_cases nd : ws.Nodup
  · rw [decide_eq_true nd]; exact distinct_ok nd hl
  · rw [decide_eq_false nd]; exact distinct_no nd hl
theorem items_any {v : PV} (h : P1 v) (he : ∀ xs, v = .tup xs → (∀ x ∈ xs, P1 x) ∧ xs.length ≤ 60) : Sy f_are_items v (itemsB true v) := by
  refine ⟨?_, h.fr⟩
  have q := isa_tup_any h.lf
  have fr := h.fr
  by_cases tt : isT v = true
  · obtain ⟨xs, rfl⟩ := isT_ex tt
    obtain ⟨hx, l⟩ := he xs rfl
    have fx : fros xs = true := by simpa using fr
    have e := says_comp (f := f_is_item) (zs := xs.map fun x => (x, itemB x)) (i := 0) (j := 1) (ρ := [some (.tup xs), none]) (fun z hz => by
      obtain ⟨x, m, rfl⟩ := List.mem_map.mp hz
      exact item_any (hx x m)) (by rw [List.map_map]; simp [Function.comp_def]) rfl
    have e2 : ((xs.map fun x => (x, itemB x)).map (·.2)) = xs.map itemB := by rw [List.map_map]; rfl
    rw [e2] at e
    have al : (xs.map itemB).all id = xs.all itemB := by rw [List.all_map]; rfl
    have sp : itemsB true (.tup xs) = (xs.all itemB && decide (xs.map sv).Nodup) := by
      show ((xs.all fun x => itemB x && (true || !decide (sv x = KY))) && _) = _
      simp
    rw [sp, ← al]
    by_cases a : xs.all itemB = true
    · have s := strs_of fun x m => isS_item (List.all_eq_true.mp a x m)
      have d := distinct_any (ws := xs.map sv) (by rw [List.length_map]; exact l)
      rw [← s] at d
      have a' : (xs.map itemB).all id = true := by rw [al]; exact a
      generalize decide (xs.map sv).Nodup = nd at *
      generalize xs.map itemB = bs at *
      simp only [f_are_items, b_are_items]
      rw [mk_eq rfl]
      simp -implicitDefEqProofs [eAnd, e, all_run, fx, d, a']
    · have a' : (xs.map itemB).all id = false := by rw [al]; simpa using a
      generalize decide (xs.map sv).Nodup = nd at *
      generalize xs.map itemB = bs at *
      simp only [f_are_items, b_are_items]
      rw [mk_eq rfl]
      simp -implicitDefEqProofs [eAnd, e, all_run, fx, a']
  · have tf : isT v = false := by simpa using tt
    rw [tf] at q
    rw [itemsB_f tf]
    simp only [f_are_items, b_are_items]
    rw [mk_eq rfl]
    simp -implicitDefEqProofs [eAnd, q, fr]
end Law
set_option Elab.async false
set_option linter.all false
set_option maxRecDepth 100000
set_option maxHeartbeats 4000000
/-! k22: what the law's own checks of names say of any value. -/
namespace Law
open PySem (Str)
open Tr Tr.Ev
/-- a loop that ends at the first bad turn -/
theorem loop_chk {b : BF} {s : SF} {r : PV} {q : Nat → Bool} {E : Nat → Env → Prop} {F : Env → Prop} : ∀ {xs : List PV} {k : Nat} {ρ : Env}, E k ρ →
    (∀ i x ρ, xs[i]? = some x → E (k + i) ρ → ∃ ρ1, b x ρ = some ρ1 ∧ ((q (k + i) = true ∧ ∃ ρ2, s ρ1 = .rt r ρ2 ∧ F ρ2) ∨ (q (k + i) = false ∧ ∃ ρ2, s ρ1 = .nx ρ2 ∧ E (k + i + 1) ρ2))) →
    (∃ ρ', loop b s xs ρ = .nx ρ' ∧ E (k + xs.length) ρ' ∧ ∀ i, i < xs.length → q (k + i) = false) ∨ (∃ ρ', loop b s xs ρ = .rt r ρ' ∧ F ρ' ∧ ∃ i, i < xs.length ∧ q (k + i) = true)
  | [], k, ρ, h0, _ => .inl ⟨ρ, rfl, h0, fun i h => absurd h (Nat.not_lt_zero _)⟩
  | x :: xs, k, ρ, h0, st => by
    obtain ⟨ρ1, e1, (⟨qt, ρ2, e2, hF⟩ | ⟨qf, ρ2, e2, hE⟩)⟩ := st 0 x ρ rfl h0
    · refine .inr ⟨ρ2, ?_, hF, 0, Nat.zero_lt_succ _, qt⟩
      rw [loop]; simp only [e1, e2]
    · have hE : E (k + 1) ρ2 := hE
      rcases loop_chk (xs := xs) (k := k + 1) (ρ := ρ2) hE (fun i y ρ hy h => by
        have a : k + 1 + i = k + (i + 1) := by omega
        rw [a] at h ⊢
        exact st (i + 1) y ρ hy h) with ⟨ρ', e, h, hq⟩ | ⟨ρ', e, h, i, hi, hq⟩
      · refine .inl ⟨ρ', ?_, ?_, fun i hi => ?_⟩
        · rw [loop]; simp only [e1, e2]; exact e
        · have a : k + (x :: xs).length = k + 1 + xs.length := by rw [List.length_cons]; omega
          rw [a]; exact h
        · cases i with
          | zero => exact qf
          | succ i =>
            have a : k + (i + 1) = k + 1 + i := by omega
            rw [a]; exact hq i (by rw [List.length_cons] at hi; omega)
      · refine .inr ⟨ρ', ?_, h, i + 1, by rw [List.length_cons]; omega, ?_⟩
        · rw [loop]; simp only [e1, e2]; exact e
        · have a : k + (i + 1) = k + 1 + i := by omega
          rw [a]; exact hq
/-- what is bad of the name at place i -/
def badN (k : Bool) (ws : List Str) (i : Nat) : Bool := let x := ws.getD i ""
  decide (x ∈ ws.take i) || ((decide (x = KY) && !k) || !okW x)
theorem nodup_take : ∀ {ws : List Str}, ws.Nodup ↔ ∀ i, i < ws.length → ws.getD i "" ∉ ws.take i
  | [] => by simp
  | w :: ws => by
    rw [List.nodup_cons, nodup_take (ws := ws)]
    constructor
    · rintro ⟨a, b⟩ i hi
      cases i with
      | zero => simp
      | succ i =>
        have hi : i < ws.length := by simpa using hi
        have g : ws.getD i "" ∈ ws := by rw [List.getD_eq_getElem?_getD, List.getElem?_eq_getElem hi]; exact List.getElem_mem hi
        have e : (w :: ws).getD (i + 1) "" = ws.getD i "" := rfl
        rw [e, List.take_succ_cons, List.mem_cons, not_or]
        exact ⟨fun z => a (z ▸ g), b i hi⟩
    · intro h
      refine ⟨fun m => ?_, fun i hi => ?_⟩
      · obtain ⟨j, hj, e⟩ := List.mem_iff_getElem.mp m
        have := h (j + 1) (by simpa using hj)
        have g : (w :: ws).getD (j + 1) "" = w := by
          show ws.getD j "" = w
          rw [List.getD_eq_getElem?_getD, List.getElem?_eq_getElem hj]; exact e
        rw [g, List.take_succ_cons] at this
        exact this List.mem_cons_self
      · have := h (i + 1) (by simpa using hi)
        rw [List.take_succ_cons, List.mem_cons, not_or] at this
        exact this.2
theorem badN_all {k : Bool} {ws : List Str} : (∀ i, i < ws.length → badN k ws i = false) ↔ itemsB k (.tup (ws.map .str)) = true := by
  have sp : itemsB k (.tup (ws.map .str)) = ((ws.all fun x => okW x && (k || !decide (x = KY))) && decide ws.Nodup) := by
    show (((ws.map PV.str).all fun x => itemB x && (k || !decide (sv x = KY))) && decide ((ws.map PV.str).map sv).Nodup) = _
    rw [List.all_map, map_sv]; rfl
  have g : ∀ i, i < ws.length → ws.getD i "" ∈ ws := fun i hi => by rw [List.getD_eq_getElem?_getD, List.getElem?_eq_getElem hi]; exact List.getElem_mem hi
  rw [sp, Bool.and_eq_true, decide_eq_true_iff, nodup_take, List.all_eq_true]
  constructor
  · intro h
    refine ⟨fun x m => ?_, fun i hi => ?_⟩
    · obtain ⟨j, hj, e⟩ := List.mem_iff_getElem.mp m
      have := h j hj
      unfold badN at this
      have ge : ws.getD j "" = x := by rw [List.getD_eq_getElem?_getD, List.getElem?_eq_getElem hj]; exact e
      rw [ge] at this
      revert this
      show (decide (x ∈ ws.take j) || ((decide (x = KY) && !k) || !okW x)) = false → (okW x && (k || !decide (x = KY))) = true
      generalize okW x = a1
      generalize decide (x = KY) = a2
      generalize decide (x ∈ ws.take j) = a3
      cases a1 <;> cases a2 <;> cases a3 <;> cases k <;> decide
    · have := h i hi
      unfold badN at this
      intro m
      simp only [m, decide_true, Bool.true_or] at this
      cases this
  · rintro ⟨a, b⟩ i hi
    have a := a _ (g i hi)
    have b := b i hi
    unfold badN
    revert a
    simp only [b]
    generalize okW (ws.getD i "") = a1
    generalize decide (ws.getD i "" = KY) = a2
    cases a1 <;> cases a2 <;> cases k <;> decide
theorem signs_comp {ρ : Env} {x : Str} (hj : ρ[5]? = some none) (hs : slot ρ 3 = some (.str x)) (hl : ρ.length = 6) : eComp [5] (iE (eP1 fListS (.nm 3))) (bN 5) (tPV2 cNi (.nm 5) (.ev (eC (.str "abcdefghijklmnopqrstuvwxyz")))) (eNm 5) ρ = .ok (.lst true ((x.cps.toList.filter fun c => !decide (c ∈ L26)).map ch)) ρ := by
  match ρ, hl with
  | [a0, a1, a2, a3, a4, a5], _ =>
    cases hj
    have hs : a3 = some (.str x) := hs
    subst hs
    have hw : iE (eP1 fListS (.nm 3)) [a0, a1, a2, some (.str x), a4, none] = .ok (x.cps.toList.map ch) [a0, a1, a2, some (.str x), a4, none] := by
      refine iE_run (v := .lst true (x.cps.toList.map ch)) ?_ (items_lstE frCh _)
      have : fListS (.str x) = some (.lst true (x.cps.toList.map ch)) := rfl
      simp -implicitDefEqProofs [this]
    refine eComp_run (own := [5]) hw ?_
    refine comp_pure (own := [5]) (b := bN 5) (t := tPV2 cNi (.nm 5) (.ev (eC (.str "abcdefghijklmnopqrstuvwxyz")))) (f := eNm 5) ch (fun c => !decide (c ∈ L26)) ch (l := x.cps.toList) fun c mc => ?_
    have n : cNi (ch c) (.str "abcdefghijklmnopqrstuvwxyz") = some (!decide (c ∈ L26)) := by
      show (cIn (.str ⟨#[c]⟩) (.str LET)).map (!·) = _
      rw [cin_abc]; rfl
    have n : cNi (.str ⟨#[c]⟩) (.str "abcdefghijklmnopqrstuvwxyz") = some (!decide (c ∈ L26)) := n
    exact ⟨[a0, a1, a2, some (.str x), a4, some (ch c)], [a0, a1, a2, some (.str x), a4, some (ch c)], rfl, by simp -implicitDefEqProofs [n], fun _ => rfl, fun _ => ⟨_, rfl, rfl⟩⟩
end Law
set_option Elab.async false
set_option linter.all false
set_option maxRecDepth 100000
set_option maxHeartbeats 4000000
/-! k22: the law's own check of names. -/
namespace Law
open PySem (Str)
open Tr Tr.Ev
theorem ne0_any {b c : Bool} {L : List PV} : cNe0 (.lst b L) (.lst c []) = some (!L.isEmpty) := by
  cases L with
  | nil => cases b <;> cases c <;> rfl
  | cons x L => rfl
theorem sFor_ret {w : IF} {b : BF} {s : SF} {ρ ρ1 ρ' : Env} {xs : List PV} {u : PV} (hw : w ρ = .ok xs ρ1) (h : loop b s xs ρ1 = .rt u ρ') : sFor w b s ρ = .rt u ρ' := by
  unfold sFor; rw [hw]; exact h
theorem fpick {xs : List PV} (h : ∀ x ∈ xs, P1 x) {ρ1 : List (Option PV)} {a1 a2 a3 : Option PV} : eCompN [4] 0 (bN 4) (tNot (tE (eT (tPV (isA .str) (.nm 4))))) (eNm 4) [some (.tup xs), a1, a2, a3, none, none] = .ok (.lst true (xs.filter fun x => !isS x)) [some (.tup xs), a1, a2, a3, none, none] := by
  have fx : fros xs = true := by rw [fros_eq]; exact List.all_eq_true.mpr fun x m => (h x m).fr
  have core := comp_pure (own := [4]) (b := bN 4) (t := tNot (tE (eT (tPV (isA .str) (.nm 4))))) (f := eNm 4) (ρ := [some (.tup xs), a1, a2, a3, none, none]) (fun x : PV => x) (fun x => !isS x) (fun x => x) (l := xs) fun x m => by
    have q := isa_str_any (h x m).lf
    have z := frz_of_fro (h x m).fr
    refine ⟨[some (.tup xs), a1, a2, a3, some x, none], [some (.tup xs), a1, a2, a3, some x, none], rfl, ?_, fun _ => rfl, fun _ => ⟨[some (.tup xs), a1, a2, a3, some x, none], ?_, rfl⟩⟩
    · simp -implicitDefEqProofs [q]
    · simp -implicitDefEqProofs [z]
  rw [List.map_id', List.map_id'] at core
  exact eCompN_fro (own := [4]) (i := 0) (ρ := [some (.tup xs), a1, a2, a3, none, none]) (v := .tup xs) rfl rfl (by rw [fro_tup]; exact fx) fx core
def LNB : SF := (sSeq (sSet 3 (eP2 ix (.nm 0) (.nm 2)))
    (sSeq (sIf (tOr (tPV2 cIn (.nm 3) (.ev (eSl (.nm 0) none (some (eNm 2))))) (tOr (tAnd (tPV2 cEq (.nm 3) (.ev (eC (.str "key")))) (tNot (tE (eNm 1)))) (tOr (tPV2 cLt (.ev (eP1 fLen (.nm 3))) (.ev (eC (.int 1)))) (tPV2 cGt (.ev (eP1 fLen (.nm 3))) (.ev (eC (.int 8))))))) (sRet (eC (.bl false))) sNx)
    (sIf (tPV2 cNe0 (.ev (eComp [5] (iE (eP1 fListS (.nm 3))) (bN 5) (tPV2 cNi (.nm 5) (.ev (eC (.str "abcdefghijklmnopqrstuvwxyz")))) (eNm 5))) (.ev (eLst aNil))) (sRet (eC (.bl false))) sNx)))
theorem lnb_turn {ws : List Str} {k : Bool} {i : Nat} {o3 : Option PV} (hi : i < ws.length) : (badN k ws i = true ∧ LNB [some (.tup (ws.map .str)), some (.bl k), some (.int (i : Nat)), o3, none, none] = .rt (.bl false) [some (.tup (ws.map .str)), some (.bl k), some (.int (i : Nat)), some (.str (ws.getD i "")), none, none]) ∨
    (badN k ws i = false ∧ LNB [some (.tup (ws.map .str)), some (.bl k), some (.int (i : Nat)), o3, none, none] = .nx [some (.tup (ws.map .str)), some (.bl k), some (.int (i : Nat)), some (.str (ws.getD i "")), none, none]) := by
  have g : ws.getD i "" = ws[i] := by rw [List.getD_eq_getElem?_getD, List.getElem?_eq_getElem hi]; rfl
  have e1 : ix (.tup (ws.map .str)) (.int (i : Nat)) = some (.str (ws.getD i "")) := by
    show (atI (ws.map PV.str) (i : Nat)).bind onlyFro = _
    unfold atI
    rw [ixN_nn (by omega) (by rw [List.length_map]; omega), Option.bind_some, Int.toNat_natCast, List.getElem?_map, List.getElem?_eq_getElem hi, g]
    rfl
  have e2 := slT_to (enc := PV.str) frStr (xs := ws) (i := (i : Nat)) (by omega)
  rw [Int.toNat_natCast] at e2
  have e3 := inT_strs (x := ws.getD i "") (ws := ws.take i)
  have e4 := signs_comp (ρ := [some (.tup (ws.map .str)), some (.bl k), some (.int (i : Nat)), some (.str (ws.getD i "")), none, none]) rfl rfl rfl
  have e5 := ne0_any (b := true) (c := true) (L := ((ws.getD i "").cps.toList.filter fun c => !decide (c ∈ L26)).map ch)
  have e6 : (((ws.getD i "").cps.toList.filter fun c => !decide (c ∈ L26)).map ch).isEmpty = ((ws.getD i "").cps.toList.all fun c => decide (c ∈ L26)) := by
    rw [List.isEmpty_map]
    generalize (ws.getD i "").cps.toList = l
    induction l with
    | nil => rfl
    | cons x l ih =>
      rw [List.filter_cons, List.all_cons]
      cases decide (x ∈ L26) with
      | true => simpa using ih
      | false => rfl
  rw [e6] at e5
  unfold badN okW LNB
  show (decide (ws.getD i "" ∈ ws.take i) || ((decide (ws.getD i "" = KY) && !k) || !(decide (1 ≤ (ws.getD i "").length) && (decide ((ws.getD i "").length ≤ 8) && (ws.getD i "").cps.toList.all fun c => decide (c ∈ L26))))) = true ∧ _ ∨ (decide (ws.getD i "" ∈ ws.take i) || ((decide (ws.getD i "" = KY) && !k) || !(decide (1 ≤ (ws.getD i "").length) && (decide ((ws.getD i "").length ≤ 8) && (ws.getD i "").cps.toList.all fun c => decide (c ∈ L26))))) = false ∧ _
  have fw : fros (ws.map .str) = true := fros_enc frStr ws
  generalize (ws.take i).map PV.str = T at *
  generalize ws.map PV.str = W at *
  generalize ((ws.getD i "").cps.toList.filter fun c => !decide (c ∈ L26)).map ch = S at *
  generalize ws.getD i "" = X at *
  generalize (X.cps.toList.all fun c => decide (c ∈ L26)) = al at *
  generalize decide (X ∈ ws.take i) = mem at *
  have key : cEq (.str X) (.str "key") = some (decide (X = KY)) := eq_ss
  generalize decide (X = KY) = ky at *
  have l1 : cLt (.int (X.length : Nat)) (.int 1) = some (!decide (1 ≤ X.length)) := by
    rw [lt_ii]; congr 1; by_cases q : 1 ≤ X.length
    · have : ¬ ((X.length : Nat) : Int) < 1 := by omega
      simp [q, this]
    · have : ((X.length : Nat) : Int) < 1 := by omega
      simp [q, this]
  have l8 : cGt (.int (X.length : Nat)) (.int 8) = some (!decide (X.length ≤ 8)) := by
    rw [gt_ii]; congr 1; by_cases q : X.length ≤ 8
    · have : ¬ (8 : Int) < (X.length : Nat) := by omega
      simp [q, this]
    · have : (8 : Int) < (X.length : Nat) := by omega
      simp [q, this]
  generalize decide (1 ≤ X.length) = d1 at *
  generalize decide (X.length ≤ 8) = d8 at *
  cases mem with
  | true => refine .inl ⟨by simp, ?_⟩; simp -implicitDefEqProofs [e1, e2, e3, fw, -ix_t]
  | false =>
    cases d1 with
    | false => refine .inl ⟨by simp, ?_⟩; cases ky <;> cases k <;> simp -implicitDefEqProofs [e1, e2, e3, key, l1, fw, -ix_t, -lt_ii]
    | true =>
      cases d8 with
      | false => refine .inl ⟨by simp, ?_⟩; cases ky <;> cases k <;> simp -implicitDefEqProofs [e1, e2, e3, key, l1, l8, fw, -ix_t, -lt_ii, -gt_ii]
      | true =>
        cases al with
        | false => refine .inl ⟨by simp, ?_⟩; cases ky <;> cases k <;> simp -implicitDefEqProofs [e1, e2, e3, e4, e5, key, l1, l8, fw, -ix_t, -lt_ii, -gt_ii]
        | true =>
          cases ky with
          | false => refine .inr ⟨by simp, ?_⟩; cases k <;> simp -implicitDefEqProofs [e1, e2, e3, e4, e5, key, l1, l8, fw, -ix_t, -lt_ii, -gt_ii]
          | true =>
            cases k with
            | false => refine .inl ⟨by simp, ?_⟩; simp -implicitDefEqProofs [e1, e2, e3, e4, e5, key, l1, l8, fw, -ix_t, -lt_ii, -gt_ii]
            | true => refine .inr ⟨by simp, ?_⟩; simp -implicitDefEqProofs [e1, e2, e3, e4, e5, key, l1, l8, fw, -ix_t, -lt_ii, -gt_ii]
theorem lnames_any {v : PV} {k : Bool} (h : P1 v) (he : ∀ xs, v = .tup xs → (∀ x ∈ xs, P1 x) ∧ xs.length ≤ 60) : f__law_is_names [v, .bl k] = .ok (.bl (itemsB k v)) [v, .bl k] := by
  have q := isa_tup_any h.lf
  have fr := h.fr
  by_cases tt : isT v = true
  · obtain ⟨xs, rfl⟩ := isT_ex tt
    obtain ⟨hx, l⟩ := he xs rfl
    have fx : fros xs = true := by simpa using fr
    have c := fpick hx (ρ1 := []) (a1 := some (.bl k)) (a2 := none) (a3 := none)
    have n := ne0_any (b := true) (c := true) (L := xs.filter fun x => !isS x)
    simp only [f__law_is_names, b__law_is_names]
    rw [mk_eq rfl]
    by_cases s : xs.all isS = true
    · have ss := List.all_eq_true.mp s
      have e : (xs.filter fun x => !isS x) = [] := List.filter_eq_nil_iff.mpr fun x m => by simp [ss x m]
      rw [e] at c n
      have sx := strs_of ss
      obtain ⟨ws, hws⟩ : ∃ ws, ws = xs.map sv := ⟨_, rfl⟩
      rw [← hws] at sx
      subst sx
      have hr : iRange1 (eP1 fLen (.nm 0)) [some (.tup (ws.map .str)), some (.bl k), none, none, none, none] = .ok ((List.range ws.length).map fun i => PV.int (i : Nat)) [some (.tup (ws.map .str)), some (.bl k), none, none, none, none] := by
        have lw : ws.length ≤ 60 := by rwa [List.length_map] at l
        have := range1_run (f := eP1 fLen (.nm 0)) (ρ := [some (.tup (ws.map .str)), some (.bl k), none, none, none, none]) (ρ1 := [some (.tup (ws.map .str)), some (.bl k), none, none, none, none]) (n := (ws.length : Nat)) (by
          have := len_encT (enc := PV.str) (xs := ws)
          simp -implicitDefEqProofs [this, -len_tup]) (by omega) (by omega)
        rwa [Int.toNat_natCast] at this
      have lp := loop_chk (b := bN 2) (s := LNB) (r := .bl false) (q := badN k ws) (E := fun i ρ => ∃ o2 o3, ρ = [some (.tup (ws.map .str)), some (.bl k), o2, o3, none, none]) (F := fun ρ => ∃ o2 o3, ρ = [some (.tup (ws.map .str)), some (.bl k), o2, o3, none, none])
        (xs := (List.range ws.length).map fun i => PV.int (i : Nat)) (k := 0) (ρ := [some (.tup (ws.map .str)), some (.bl k), none, none, none, none]) ⟨none, none, rfl⟩ fun i x ρ hx hE => by
          obtain ⟨o2, o3, rfl⟩ := hE
          obtain ⟨hi, rfl⟩ := range_get hx
          rw [Nat.zero_add]
          refine ⟨_, rfl, ?_⟩
          rcases lnb_turn (k := k) (o3 := o3) hi with ⟨b, e⟩ | ⟨b, e⟩
          · exact .inl ⟨b, _, e, _, _, rfl⟩
          · exact .inr ⟨b, _, e, _, _, rfl⟩
      have ll : ((List.range ws.length).map fun i => PV.int (i : Nat)).length = ws.length := by rw [List.length_map, List.length_range]
      rw [ll] at lp
      simp only [Nat.zero_add] at lp
      rcases lp with ⟨ρ', e1, ⟨o2, o3, rfl⟩, hq⟩ | ⟨ρ', e1, ⟨o2, o3, rfl⟩, i, hi, hq⟩
      · have it := badN_all.mp hq
        rw [it]
        have f1 := sFor_run (b := bN 2) hr e1
        unfold LNB at f1
        clear e1
        generalize ws.map PV.str = W at *
        simp -implicitDefEqProofs [q, isT, c, n, f1, fx]
      · have it : itemsB k (.tup (ws.map .str)) = false := by
          cases z : itemsB k (.tup (ws.map .str)) with
          | false => rfl
          | true => rw [badN_all.mpr z i hi] at hq; cases hq
        rw [it]
        have f1 := sFor_ret (b := bN 2) hr e1
        unfold LNB at f1
        clear e1
        generalize ws.map PV.str = W at *
        simp -implicitDefEqProofs [q, isT, c, n, f1, fx]
    · have e : (xs.filter fun x => !isS x).isEmpty = false := by
        cases z : (xs.filter fun x => !isS x).isEmpty with
        | false => rfl
        | true =>
          rw [List.isEmpty_iff] at z
          refine absurd (List.all_eq_true.mpr fun x m => ?_) s
          have := List.filter_eq_nil_iff.mp z x m
          simpa using this
      have it : itemsB k (.tup xs) = false := by
        cases z : itemsB k (.tup xs) with
        | false => rfl
        | true =>
          refine absurd (List.all_eq_true.mpr fun x m => ?_) s
          have z : ((xs.all fun x => itemB x && (k || !decide (sv x = KY))) && decide (xs.map sv).Nodup) = true := z
          rw [Bool.and_eq_true] at z
          have := List.all_eq_true.mp z.1 x m
          rw [Bool.and_eq_true] at this
          exact isS_item this.1
      rw [it]
      rw [e] at n
      generalize (xs.filter fun x => !isS x) = L at *
      simp -implicitDefEqProofs [q, isT, c, n, fx]
  · have tf : isT v = false := by simpa using tt
    rw [tf] at q
    rw [itemsB_f tf]
    simp only [f__law_is_names, b__law_is_names]
    rw [mk_eq rfl]
    simp -implicitDefEqProofs [q, fr]
end Law
set_option Elab.async false
set_option linter.all false
set_option maxRecDepth 100000
set_option maxHeartbeats 4000000
/-! k22: is_word, is_write of any value. -/
namespace Law
open PySem (Str)
open Tr Tr.Ev
def wordB (ks : List Str) : PV → Bool
  | .str x => decide (x ∈ ks)
  | _ => false
theorem wordB_f {ks : List Str} {v : PV} (h : isS v = false) : wordB ks v = false := by cases v <;> first | rfl | cases h
theorem word_any {v : PV} {ks : List Str} (h : P1 v) : f_is_word [v, .tup (ks.map .str)] = .ok (.bl (wordB ks v)) [v, .tup (ks.map .str)] := by
  have q := isa_str_any h.lf
  have fr := h.fr
  have fk := fros_enc frStr ks
  simp only [f_is_word, b_is_word]
  rw [mk_eq rfl]
  by_cases s : isS v = true
  · obtain ⟨x, rfl⟩ := isS_ex s
    have e := inT_strs (x := x) (ws := ks)
    show _ = FR.ok (.bl (decide (x ∈ ks))) _
    generalize decide (x ∈ ks) = d at *
    generalize ks.map PV.str = K at *
    simp -implicitDefEqProofs [eAnd, e, fk]
  · have sf : isS v = false := by simpa using s
    rw [sf] at q
    rw [wordB_f sf]
    generalize ks.map PV.str = K at *
    simp -implicitDefEqProofs [eAnd, q, fr, fk]
structure P2 (v : PV) : Prop where
  p : P1 v
  e : ∀ xs, v = .tup xs → ∀ x ∈ xs, P1 x
def pairT : PV → Bool
  | .tup [_, _] => true
  | _ => false
def p0 : PV → PV
  | .tup (a :: _) => a
  | _ => .non
def p1 : PV → PV
  | .tup (_ :: b :: _) => b
  | _ => .non
theorem pair_ex {v : PV} (h : pairT v = true) : v = .tup [p0 v, p1 v] := by
  unfold pairT at h
  split at h
  · rfl
  · cases h
def writeB : PV → Bool
  | .tup xs => xs.all pairT && (xs.all (fun x => wordB BLS (p1 x)) && itemsB false (.tup (xs.map p0)))
  | _ => false
theorem writeB_f {v : PV} (h : isT v = false) : writeB v = false := by cases v <;> first | rfl | cases h
/-- one turn's check of one pair -/
def badW (v : PV) : Bool := !(pairT v && (nameB (p0 v) && wordB BLS (p1 v)))
def IWB : SF := (sSeq (sIf (tOr (tNot (tE (eT (tPV (isA .tuple) (.nm 1))))) (tPV2 cNe (.ev (eP1 fLen (.nm 1))) (.ev (eC (.int 2))))) (sRet (eC (.bl false))) sNx)
    (sIf (tOr (tNot (tE (eCall f_is_name [(.ev (eP2 ix (.nm 1) (.ev (eC (.int 0)))))] []))) (tNot (tE (eCall f_is_word [(.ev (eP2 ix (.nm 1) (.ev (eC (.int 1))))), (.ev (eC (.tup [.str "keep", .str "clear"])))] [])))) (sRet (eC (.bl false))) sNx))
theorem pairT_len {xs : List PV} : pairT (.tup xs) = decide (xs.length = 2) := by
  match xs with
  | [] => rfl
  | [_] => rfl
  | [_, _] => rfl
  | _ :: _ :: _ :: xs => simp [pairT]
theorem iwb_turn {v : PV} (h : P2 v) {a0 a2 a3 : Option PV} : (badW v = true ∧ IWB [a0, some v, a2, a3] = .rt (.bl false) [a0, some v, a2, a3]) ∨ (badW v = false ∧ IWB [a0, some v, a2, a3] = .nx [a0, some v, a2, a3]) := by
  have q := isa_tup_any h.p.lf
  have fr := h.p.fr
  unfold IWB badW
  by_cases t : isT v = true
  · obtain ⟨xs, rfl⟩ := isT_ex t
    have fx : fros xs = true := by simpa using fr
    by_cases l : xs.length = 2
    · have pt : pairT (.tup xs) = true := by rw [pairT_len]; simpa using l
      have px := pair_ex pt
      rw [pt]
      match xs, l with
      | [a, b], _ =>
        have ha := h.e _ rfl a (by simp)
        have hb := h.e _ rfl b (by simp)
        have e1 := (name_any ha).e
        have e2 := word_any (ks := BLS) hb
        have e2 : f_is_word [b, .tup [.str "keep", .str "clear"]] = .ok (.bl (wordB BLS b)) [b, .tup [.str "keep", .str "clear"]] := e2
        have oa := onlyFro_t ha.fr
        have ob := onlyFro_t hb.fr
        have i0 : ix (.tup [a, b]) (.int 0) = some a := oa
        have i1 : ix (.tup [a, b]) (.int 1) = some b := ob
        have fa := ha.fr
        have fb := hb.fr
        show ((!(true && (nameB a && wordB BLS b))) = true ∧ _) ∨ ((!(true && (nameB a && wordB BLS b))) = false ∧ _)
        generalize nameB a = na at *
        generalize wordB BLS b = wb at *
        cases na with
        | false => exact .inl ⟨rfl, by simp -implicitDefEqProofs [i0, i1, e1, e2, ne_ii, fa, fb, -ix_t]⟩
        | true =>
          cases wb with
          | false => exact .inl ⟨rfl, by simp -implicitDefEqProofs [i0, i1, e1, e2, ne_ii, fa, fb, -ix_t]⟩
          | true => exact .inr ⟨rfl, by simp -implicitDefEqProofs [i0, i1, e1, e2, ne_ii, fa, fb, -ix_t]⟩
    · have pt : pairT (.tup xs) = false := by rw [pairT_len]; simpa using l
      rw [pt]
      have l' : ¬ ((xs.length : Nat) : Int) = 2 := by omega
      refine .inl ⟨rfl, ?_⟩
      simp -implicitDefEqProofs [ne_ii, l']
  · have tf : isT v = false := by simpa using t
    have pt : pairT v = false := by cases v <;> first | rfl | cases tf
    rw [tf] at q
    rw [pt]
    refine .inl ⟨rfl, ?_⟩
    simp -implicitDefEqProofs [q]
theorem dcount_iff {ws : List Str} : decide (((dcount ws ws.length : Nat) : Int) = (ws.length : Nat)) = decide ws.Nodup := by
  by_cases nd : ws.Nodup
  · rw [dcount_nd nd _ (Nat.le_refl _)]; simp [nd]
  · have lt : ¬ dcount ws ws.length = ws.length := fun e => nd (by have := dcount_full ws.length (Nat.le_refl _) e; rwa [List.take_length] at this)
    have ne : ¬ ((dcount ws ws.length : Nat) : Int) = (ws.length : Nat) := by omega
    simp [nd, ne]
theorem setw_ok {xs : List PV} (hp : ∀ x ∈ xs, pairT x = true) (h2 : ∀ x ∈ xs, P2 x) (hn : ∀ x ∈ xs, isS (p0 x) = true) (l : xs.length ≤ 60) {a1 : Option PV} :
    eLenSc [2, 3] (iE (eNm 0)) (bT [(bN 2), (bN 3)]) tYes (eNm 2) [some (.tup xs), a1, none, none] = .ok (.int (dcount (xs.map fun x => sv (p0 x)) xs.length : Nat)) [some (.tup xs), a1, none, none] := by
  have fx : fros xs = true := by rw [fros_eq]; exact List.all_eq_true.mpr fun x m => (h2 x m).p.fr
  have zx := frzs_of_fros fx
  have core := comp_pure (own := [2, 3]) (b := bT [(bN 2), (bN 3)]) (t := tYes) (f := eNm 2) (ρ := [some (.tup xs), a1, none, none]) (fun x : PV => x) (fun _ => true) (fun x => PV.str (sv (p0 x))) (l := xs) fun x m => by
    have px := pair_ex (hp x m)
    obtain ⟨y, hy⟩ := isS_ex (hn x m)
    have sy : sv (p0 x) = y := by rw [hy]; rfl
    have xe : x = .tup [.str y, p1 x] := by rw [← hy]; exact px
    generalize p1 x = z at *
    refine ⟨[some (.tup xs), a1, some (.str y), some z], [some (.tup xs), a1, some (.str y), some z], ?_, rfl, (fun h => by cases h), fun _ => ⟨[some (.tup xs), a1, some (.str y), some z], ?_, rfl⟩⟩
    · rw [xe]
      simp -implicitDefEqProofs
    · rw [sy]; simp -implicitDefEqProofs
  rw [List.map_id', filter_t] at core
  have hw : iE (eNm 0) [some (.tup xs), a1, none, none] = .ok xs [some (.tup xs), a1, none, none] := by
    refine iE_run (v := .tup xs) ?_ ?_
    · simp -implicitDefEqProofs [zx]
    · rw [frz_tup, zx]; rfl
  unfold eLenSc
  rw [hw]
  show (compL [2, 3] (bT [(bN 2), (bN 3)]) tYes (eNm 2) xs [some (.tup xs), a1, none, none]).bindB _ = _
  rw [core]
  show fcnt (xs.map fun x => PV.str (sv (p0 x))) [some (.tup xs), a1, none, none] = _
  have mm : (xs.map fun x => PV.str (sv (p0 x))) = (xs.map fun x => sv (p0 x)).map .str := by rw [List.map_map]; rfl
  rw [mm]
  unfold fcnt
  rw [strs_map]
  simp only [List.length_map]
  rw [if_pos (by omega)]
theorem write_eq {xs : List PV} : writeB (.tup xs) = ((xs.all fun x => !badW x) && decide (xs.map fun x => sv (p0 x)).Nodup) := by
  show (xs.all pairT && (xs.all (fun x => wordB BLS (p1 x)) && (((xs.map p0).all fun x => itemB x && (false || !decide (sv x = KY))) && decide ((xs.map p0).map sv).Nodup))) = _
  rw [List.all_map, List.map_map]
  show (xs.all pairT && (xs.all (fun x => wordB BLS (p1 x)) && ((xs.all fun x => itemB (p0 x) && !decide (sv (p0 x) = KY)) && decide (xs.map fun x => sv (p0 x)).Nodup))) = _
  rw [← Bool.and_assoc, ← Bool.and_assoc]
  congr 1
  induction xs with
  | nil => rfl
  | cons x xs ih =>
    simp only [List.all_cons]
    rw [← ih]
    have e : (itemB (p0 x) && !decide (sv (p0 x) = KY)) = nameB (p0 x) := by
      cases p0 x <;> rfl
    have b : (!badW x) = (pairT x && (nameB (p0 x) && wordB BLS (p1 x))) := by unfold badW; simp
    rw [e, b]
    generalize pairT x = c1
    generalize nameB (p0 x) = c2
    generalize wordB BLS (p1 x) = c3
    generalize xs.all pairT = c4
    generalize (xs.all fun x => wordB BLS (p1 x)) = c5
    generalize (xs.all fun x => itemB (p0 x) && !decide (sv (p0 x) = KY)) = c6
    cases c1 <;> cases c2 <;> cases c3 <;> cases c4 <;> cases c5 <;> cases c6 <;> rfl
theorem write_any {v : PV} (h : P1 v) (he : ∀ xs, v = .tup xs → (∀ x ∈ xs, P2 x) ∧ xs.length ≤ 60) : Sy f_is_write v (writeB v) := by
  refine ⟨?_, h.fr⟩
  have q := isa_tup_any h.lf
  have fr := h.fr
  by_cases tt : isT v = true
  · obtain ⟨xs, rfl⟩ := isT_ex tt
    obtain ⟨hx, l⟩ := he xs rfl
    have fx : fros xs = true := by simpa using fr
    have lp := loop_chk (b := bN 1) (s := IWB) (r := .bl false) (q := fun i => badW (xs.getD i .non)) (E := fun i ρ => ∃ o1, ρ = [none, o1, none, none]) (F := fun ρ => ∃ o1, ρ = [none, o1, none, none])
      (xs := xs) (k := 0) (ρ := [none, none, none, none]) ⟨none, rfl⟩ fun i x ρ hx' hE => by
        obtain ⟨o1, rfl⟩ := hE
        have hg : xs.getD i .non = x := by rw [List.getD_eq_getElem?_getD, hx']; rfl
        rw [Nat.zero_add, hg]
        refine ⟨[none, some x, none, none], rfl, ?_⟩
        rcases iwb_turn (hx x (List.mem_of_getElem? hx')) (a0 := none) (a2 := none) (a3 := none) with ⟨b, e⟩ | ⟨b, e⟩
        · exact .inl ⟨b, _, e, _, rfl⟩
        · exact .inr ⟨b, _, e, _, rfl⟩
    simp only [Nat.zero_add] at lp
    rw [write_eq]
    rcases lp with ⟨ρ', e1, ⟨o1, rfl⟩, hq⟩ | ⟨ρ', e1, ⟨o1, rfl⟩, i, hi, hq⟩
    · have al : ∀ x ∈ xs, badW x = false := fun x m => by
        obtain ⟨j, hj, e⟩ := List.mem_iff_getElem.mp m
        have := hq j hj
        rwa [List.getD_eq_getElem?_getD, List.getElem?_eq_getElem hj, Option.getD_some, e] at this
      have a1 : (xs.all fun x => !badW x) = true := List.all_eq_true.mpr fun x m => by rw [al x m]; rfl
      have pr : ∀ x ∈ xs, pairT x = true ∧ nameB (p0 x) = true := fun x m => by
        have := al x m
        unfold badW at this
        revert this
        cases pairT x <;> cases nameB (p0 x) <;> simp
      have sw := setw_ok (a1 := o1) (fun x m => (pr x m).1) hx (fun x m => by
        have := (pr x m).2
        cases hh : p0 x <;> first | rfl | (rw [hh] at this; cases this)) l
      have di := dcount_iff (ws := xs.map fun x => sv (p0 x))
      rw [List.length_map] at di
      rw [a1, Bool.true_and, ← di]
      have f1 := sForN_run (i := 0) (b := bN 1) (s := IWB) (ρ := [some (.tup xs), none, none, none]) (v := .tup xs) rfl rfl fx e1
      unfold IWB at f1
      generalize ((dcount (xs.map fun x => sv (p0 x)) xs.length : Nat) : Int) = D at *
      simp only [f_is_write, b_is_write]
      rw [mk_eq rfl]
      simp -implicitDefEqProofs [q, isT, f1, sw, fx, eq_ii]
    · have a0 : (xs.all fun x => !badW x) = false := by
        cases z : (xs.all fun x => !badW x) with
        | false => rfl
        | true =>
          have := List.all_eq_true.mp z xs[i] (List.getElem_mem hi)
          rw [List.getD_eq_getElem?_getD, List.getElem?_eq_getElem hi, Option.getD_some] at hq
          rw [hq] at this; cases this
      rw [a0, Bool.false_and]
      have f1 := sForN_ret (i := 0) (b := bN 1) (s := IWB) (ρ := [some (.tup xs), none, none, none]) (v := .tup xs) rfl rfl fx e1
      unfold IWB at f1
      simp only [f_is_write, b_is_write]
      rw [mk_eq rfl]
      simp -implicitDefEqProofs [q, isT, f1, fx]
  · have tf : isT v = false := by simpa using tt
    rw [tf] at q
    rw [writeB_f tf]
    simp only [f_is_write, b_is_write]
    rw [mk_eq rfl]
    simp -implicitDefEqProofs [q, fr]
end Law
set_option Elab.async false
set_option linter.all false
set_option maxRecDepth 100000
set_option maxHeartbeats 4000000
/-! k22: the law's own check of what is written. -/
namespace Law
open PySem (Str)
open Tr Tr.Ev
theorem filter_emp {α : Type} {p : α → Bool} {l : List α} : (l.filter fun x => !p x).isEmpty = l.all p := by
  induction l with
  | nil => rfl
  | cons x l ih =>
    rw [List.filter_cons, List.all_cons]
    cases p x with
    | true => simpa using ih
    | false => rfl
theorem wpick1 {xs : List PV} (h : ∀ x ∈ xs, P2 x) : eCompN [1] 0 (bN 1) (tOr (tNot (tE (eT (tPV (isA .tuple) (.nm 1))))) (tPV2 cNe (.ev (eP1 fLen (.nm 1))) (.ev (eC (.int 2))))) (eNm 1) [some (.tup xs), none] = .ok (.lst true (xs.filter fun x => !pairT x)) [some (.tup xs), none] := by
  have fx : fros xs = true := by rw [fros_eq]; exact List.all_eq_true.mpr fun x m => (h x m).p.fr
  have core := comp_pure (own := [1]) (b := bN 1) (t := (tOr (tNot (tE (eT (tPV (isA .tuple) (.nm 1))))) (tPV2 cNe (.ev (eP1 fLen (.nm 1))) (.ev (eC (.int 2)))))) (f := eNm 1) (ρ := [some (.tup xs), none]) (fun x : PV => x) (fun x => !pairT x) (fun x => x) (l := xs) fun x m => by
    have q := isa_tup_any (h x m).p.lf
    have z := frz_of_fro (h x m).p.fr
    refine ⟨[some (.tup xs), some x], [some (.tup xs), some x], rfl, ?_, fun _ => rfl, fun _ => ⟨[some (.tup xs), some x], ?_, rfl⟩⟩
    · by_cases t : isT x = true
      · obtain ⟨ys, rfl⟩ := isT_ex t
        rw [pairT_len]
        have e : decide (((ys.length : Nat) : Int) = 2) = decide (ys.length = 2) := by
          by_cases q : ys.length = 2
          · simp [q]
          · have : ¬ ((ys.length : Nat) : Int) = 2 := by omega
            simp [q, this]
        simp -implicitDefEqProofs [ne_ii, e]
      · have tf : isT x = false := by simpa using t
        have pt : pairT x = false := by cases x <;> first | rfl | cases tf
        rw [tf] at q
        rw [pt]
        simp -implicitDefEqProofs [q]
    · simp -implicitDefEqProofs [z]
  rw [List.map_id', List.map_id'] at core
  exact eCompN_fro (own := [1]) (i := 0) (ρ := [some (.tup xs), none]) (v := .tup xs) rfl rfl (by rw [fro_tup]; exact fx) fx core
theorem pr_ix {x : PV} (h : P2 x) (t : pairT x = true) : ix x (.int 0) = some (p0 x) ∧ ix x (.int 1) = some (p1 x) ∧ P1 (p0 x) ∧ P1 (p1 x) := by
  have px := pair_ex t
  have ha : P1 (p0 x) := h.e _ px _ (by simp)
  have hb : P1 (p1 x) := h.e _ px _ (by simp)
  refine ⟨?_, ?_, ha, hb⟩
  · rw [px]; exact onlyFro_t ha.fr
  · rw [px]; exact onlyFro_t hb.fr
theorem wpick2 {xs : List PV} (h : ∀ x ∈ xs, P2 x) (hp : ∀ x ∈ xs, pairT x = true) : eCompN [1] 0 (bN 1) (tOr (tNot (tE (eT (tPV (isA .str) (.ev (eP2 ix (.nm 1) (.ev (eC (.int 1))))))))) (tPV2 cNi (.ev (eP2 ix (.nm 1) (.ev (eC (.int 1))))) (.ev (eTup (aCons (eC (.str "keep")) (aCons (eC (.str "clear")) aNil)))))) (eNm 1) [some (.tup xs), none] = .ok (.lst true (xs.filter fun x => !wordB BLS (p1 x))) [some (.tup xs), none] := by
  have fx : fros xs = true := by rw [fros_eq]; exact List.all_eq_true.mpr fun x m => (h x m).p.fr
  have core := comp_pure (own := [1]) (b := bN 1) (t := (tOr (tNot (tE (eT (tPV (isA .str) (.ev (eP2 ix (.nm 1) (.ev (eC (.int 1))))))))) (tPV2 cNi (.ev (eP2 ix (.nm 1) (.ev (eC (.int 1))))) (.ev (eTup (aCons (eC (.str "keep")) (aCons (eC (.str "clear")) aNil))))))) (f := eNm 1) (ρ := [some (.tup xs), none]) (fun x : PV => x) (fun x => !wordB BLS (p1 x)) (fun x => x) (l := xs) fun x m => by
    have z := frz_of_fro (h x m).p.fr
    obtain ⟨_, i1, _, hb⟩ := pr_ix (h x m) (hp x m)
    have q := isa_str_any hb.lf
    refine ⟨[some (.tup xs), some x], [some (.tup xs), some x], rfl, ?_, fun _ => rfl, fun _ => ⟨[some (.tup xs), some x], ?_, rfl⟩⟩
    · generalize p1 x = y at *
      by_cases s : isS y = true
      · obtain ⟨w, rfl⟩ := isS_ex s
        have e := inT_strs (x := w) (ws := BLS)
        have e : cIn (.str w) (.tup [.str "keep", .str "clear"]) = some (wordB BLS (.str w)) := e
        have e : cNi (.str w) (.tup [.str "keep", .str "clear"]) = some (!wordB BLS (.str w)) := by unfold cNi; rw [e]; rfl
        generalize wordB BLS (.str w) = b at *
        simp -implicitDefEqProofs [i1, e]
      · have sf : isS y = false := by simpa using s
        rw [sf] at q
        rw [wordB_f sf]
        simp -implicitDefEqProofs [i1, q]
    · simp -implicitDefEqProofs [z]
  rw [List.map_id', List.map_id'] at core
  exact eCompN_fro (own := [1]) (i := 0) (ρ := [some (.tup xs), none]) (v := .tup xs) rfl rfl (by rw [fro_tup]; exact fx) fx core
theorem wpick3 {xs : List PV} (h : ∀ x ∈ xs, P2 x) (hp : ∀ x ∈ xs, pairT x = true) : eCompN [1] 0 (bN 1) tYes (eP2 ix (.nm 1) (.ev (eC (.int 0)))) [some (.tup xs), none] = .ok (.lst true (xs.map p0)) [some (.tup xs), none] := by
  have fx : fros xs = true := by rw [fros_eq]; exact List.all_eq_true.mpr fun x m => (h x m).p.fr
  have core := comp_pure (own := [1]) (b := bN 1) (t := tYes) (f := (eP2 ix (.nm 1) (.ev (eC (.int 0))))) (ρ := [some (.tup xs), none]) (fun x : PV => x) (fun _ => true) p0 (l := xs) fun x m => by
    obtain ⟨i0, _, _, _⟩ := pr_ix (h x m) (hp x m)
    refine ⟨[some (.tup xs), some x], [some (.tup xs), some x], rfl, rfl, (fun h => by cases h), fun _ => ⟨[some (.tup xs), some x], ?_, rfl⟩⟩
    simp -implicitDefEqProofs [i0]
  rw [List.map_id', filter_t] at core
  exact eCompN_fro (own := [1]) (i := 0) (ρ := [some (.tup xs), none]) (v := .tup xs) rfl rfl (by rw [fro_tup]; exact fx) fx core
theorem lwrite_any {v : PV} (h : P1 v) (he : ∀ xs, v = .tup xs → (∀ x ∈ xs, P2 x) ∧ xs.length ≤ 60) : Sy f__law_is_write v (writeB v) := by
  refine ⟨?_, h.fr⟩
  have q := isa_tup_any h.lf
  have fr := h.fr
  by_cases tt : isT v = true
  · obtain ⟨xs, rfl⟩ := isT_ex tt
    obtain ⟨hx, l⟩ := he xs rfl
    have fx : fros xs = true := by simpa using fr
    have sp : writeB (.tup xs) = (xs.all pairT && (xs.all (fun x => wordB BLS (p1 x)) && itemsB false (.tup (xs.map p0)))) := rfl
    have c1 := wpick1 hx
    have n1 := ne0_any (b := true) (c := true) (L := xs.filter fun x => !pairT x)
    rw [filter_emp] at n1
    rw [sp]
    by_cases hp : xs.all pairT = true
    · have hp' := List.all_eq_true.mp hp
      have c2 := wpick2 hx hp'
      have n2 := ne0_any (b := true) (c := true) (L := xs.filter fun x => !wordB BLS (p1 x))
      rw [filter_emp] at n2
      have c3 := wpick3 hx hp'
      have h0 : ∀ x ∈ xs.map p0, P1 x := fun x m => by
        obtain ⟨y, my, rfl⟩ := List.mem_map.mp m
        exact (pr_ix (hx y my) (hp' y my)).2.2.1
      have f0 : fros (xs.map p0) = true := by rw [fros_eq]; exact List.all_eq_true.mpr fun x m => (h0 x m).fr
      have ln := lnames_any (v := .tup (xs.map p0)) (k := false) ⟨by rw [fro_tup]; exact f0, rfl⟩ (fun ys e => by
        cases e; exact ⟨h0, by rw [List.length_map]; exact l⟩)
      have tu : fTuple (.lst true (xs.map p0)) = some (.tup (xs.map p0)) := by
        show (if fros (xs.map p0) = true then some (PV.tup (xs.map p0)) else none) = _
        rw [if_pos f0]
      rw [hp] at n1 ⊢
      generalize (xs.all fun x => wordB BLS (p1 x)) = wb at *
      generalize itemsB false (.tup (xs.map p0)) = ib at *
      generalize xs.map p0 = N at *
      generalize (xs.filter fun x => !pairT x) = L1 at *
      generalize (xs.filter fun x => !wordB BLS (p1 x)) = L2 at *
      simp only [f__law_is_write, b__law_is_write]
      rw [mk_eq rfl]
      cases wb <;> simp -implicitDefEqProofs [q, isT, c1, n1, c2, n2, c3, ln, tu, fx]
    · have hf : xs.all pairT = false := by simpa using hp
      rw [hf] at n1 ⊢
      generalize (xs.filter fun x => !pairT x) = L1 at *
      simp only [f__law_is_write, b__law_is_write]
      rw [mk_eq rfl]
      simp -implicitDefEqProofs [q, isT, c1, n1, fx]
  · have tf : isT v = false := by simpa using tt
    rw [tf] at q
    rw [writeB_f tf]
    simp only [f__law_is_write, b__law_is_write]
    rw [mk_eq rfl]
    simp -implicitDefEqProofs [q, fr]
end Law
set_option Elab.async false
set_option linter.all false
set_option maxRecDepth 100000
set_option maxHeartbeats 4000000
/-! k22: which part is wrong: the program's answer and the law's. -/
namespace Law
open PySem (Str)
open Tr Tr.Ev
/-- seven values that may be handed to a Joining -/
structure V7 where
  a : PV
  b : PV
  c : PV
  d : PV
  e : PV
  f : PV
  g : PV
def V7.l (v : V7) : List PV := [v.a, v.b, v.c, v.d, v.e, v.f, v.g]
structure V7Ok (v : V7) : Prop where
  a : P1 v.a
  b : P1 v.b
  c : P1 v.c
  d : P1 v.d
  e : P1 v.e
  f : P1 v.f
  g : P1 v.g
  ae : ∀ xs, v.a = .tup xs → (∀ x ∈ xs, P1 x) ∧ xs.length ≤ 60
  be : ∀ xs, v.b = .tup xs → (∀ x ∈ xs, P2 x) ∧ xs.length ≤ 60
  fe : ∀ xs, v.f = .tup xs → (∀ x ∈ xs, P1 x) ∧ xs.length ≤ 60
def isE : PV → Bool
  | .tup [] => true
  | _ => false
def wrongV (v : V7) : PV :=
  if (itemsB true v.a && !isE v.a) = true then
    if writeB v.b = true then
      if wordB MANYS v.c = true then
        if wordB NEWS v.d = true then
          if wordB GONES v.e = true then
            if itemsB true v.f = true then
              if wordB SCOPES v.g = true then .non else .str "scope"
            else .str "guard"
          else .str "gone"
        else .str "new"
      else .str "many"
    else .str "write"
  else .str "match"
theorem items_strs {k : Bool} {v : PV} (h : itemsB k v = true) : ∃ ws : List Str, v = .tup (ws.map .str) := by
  have t : isT v = true := by
    cases z : isT v with
    | true => rfl
    | false => rw [itemsB_f z] at h; cases h
  obtain ⟨xs, rfl⟩ := isT_ex t
  have h : ((xs.all fun x => itemB x && (k || !decide (sv x = KY))) && decide (xs.map sv).Nodup) = true := h
  rw [Bool.and_eq_true] at h
  refine ⟨xs.map sv, congrArg PV.tup (strs_of fun x m => ?_)⟩
  have := List.all_eq_true.mp h.1 x m
  rw [Bool.and_eq_true] at this
  exact isS_item this.1
theorem eqE {k : Bool} {v : PV} (h : itemsB k v = true) : cEq v (.tup []) = some (isE v) := by
  obtain ⟨ws, rfl⟩ := items_strs h
  have := eq_heads (a := ws) (b := [])
  rw [show (([] : List Str).map PV.str) = [] from rfl] at this
  rw [this]
  cases ws with
  | nil => rfl
  | cons w ws => rfl
def WLB : SF := (sIf (tNot (tE (eCall f_is_word [(.nm 8), (.nm 9)] []))) (sRet (eMv 7)) sNx)
theorem wlb_turn {x : Str} {v : PV} {ks : List Str} (h : P1 v) {a0 a1 a2 a3 a4 a5 a6 : Option PV} : WLB [a0, a1, a2, a3, a4, a5, a6, some (.str x), some v, some (.tup (ks.map .str))] = if wordB ks v = true then .nx [a0, a1, a2, a3, a4, a5, a6, some (.str x), some v, some (.tup (ks.map .str))] else .rt (.str x) [a0, a1, a2, a3, a4, a5, a6, none, some v, some (.tup (ks.map .str))] := by
  have e := word_any (ks := ks) h
  have fk := fros_enc frStr ks
  have fv := h.fr
  unfold WLB
  generalize wordB ks v = w at *
  generalize ks.map PV.str = K at *
  cases w <;> simp -implicitDefEqProofs [e, fk, fv]
def WTB : List PV → List PV := fun l => match l with
  | [c, d, e] => [.tup [.str "many", c, .tup (MANYS.map .str)], .tup [.str "new", d, .tup (NEWS.map .str)], .tup [.str "gone", e, .tup (GONES.map .str)]]
  | _ => []
theorem wl_loop {c d e : PV} (hc : P1 c) (hd : P1 d) (he : P1 e) {a0 a1 a2 a3 a4 a5 a6 : Option PV} : ∃ o7 o8 o9, loop (bT [(bN 7), (bN 8), (bN 9)]) WLB (WTB [c, d, e]) [a0, a1, a2, a3, a4, a5, a6, none, none, none] =
    if wordB MANYS c = true then (if wordB NEWS d = true then (if wordB GONES e = true then .nx [a0, a1, a2, a3, a4, a5, a6, o7, o8, o9] else .rt (.str "gone") [a0, a1, a2, a3, a4, a5, a6, o7, o8, o9]) else .rt (.str "new") [a0, a1, a2, a3, a4, a5, a6, o7, o8, o9]) else .rt (.str "many") [a0, a1, a2, a3, a4, a5, a6, o7, o8, o9] := by
  have t1 := wlb_turn (x := "many") (ks := MANYS) hc (a0 := a0) (a1 := a1) (a2 := a2) (a3 := a3) (a4 := a4) (a5 := a5) (a6 := a6)
  have t2 := wlb_turn (x := "new") (ks := NEWS) hd (a0 := a0) (a1 := a1) (a2 := a2) (a3 := a3) (a4 := a4) (a5 := a5) (a6 := a6)
  have t3 := wlb_turn (x := "gone") (ks := GONES) he (a0 := a0) (a1 := a1) (a2 := a2) (a3 := a3) (a4 := a4) (a5 := a5) (a6 := a6)
  have b1 : ∀ o7 o8 o9, bT [(bN 7), (bN 8), (bN 9)] (.tup [.str "many", c, .tup (MANYS.map .str)]) [a0, a1, a2, a3, a4, a5, a6, o7, o8, o9] = some [a0, a1, a2, a3, a4, a5, a6, some (.str "many"), some c, some (.tup (MANYS.map .str))] := fun _ _ _ => rfl
  have b2 : ∀ o7 o8 o9, bT [(bN 7), (bN 8), (bN 9)] (.tup [.str "new", d, .tup (NEWS.map .str)]) [a0, a1, a2, a3, a4, a5, a6, o7, o8, o9] = some [a0, a1, a2, a3, a4, a5, a6, some (.str "new"), some d, some (.tup (NEWS.map .str))] := fun _ _ _ => rfl
  have b3 : ∀ o7 o8 o9, bT [(bN 7), (bN 8), (bN 9)] (.tup [.str "gone", e, .tup (GONES.map .str)]) [a0, a1, a2, a3, a4, a5, a6, o7, o8, o9] = some [a0, a1, a2, a3, a4, a5, a6, some (.str "gone"), some e, some (.tup (GONES.map .str))] := fun _ _ _ => rfl
  show ∃ o7 o8 o9, loop _ _ [.tup [.str "many", c, .tup (MANYS.map .str)], .tup [.str "new", d, .tup (NEWS.map .str)], .tup [.str "gone", e, .tup (GONES.map .str)]] _ = _
  rw [loop]
  simp only [b1, t1]
  cases wordB MANYS c with
  | false => exact ⟨_, _, _, rfl⟩
  | true =>
    rw [if_pos rfl]
    simp only
    rw [loop]
    simp only [b2, t2]
    cases wordB NEWS d with
    | false => exact ⟨_, _, _, rfl⟩
    | true =>
      rw [if_pos rfl]
      simp only
      rw [loop]
      simp only [b3, t3]
      cases wordB GONES e with
      | false => exact ⟨_, _, _, rfl⟩
      | true => exact ⟨_, _, _, rfl⟩
end Law
set_option Elab.async false
set_option linter.all false
set_option maxRecDepth 100000
set_option maxHeartbeats 4000000
/-! k22: wrong_part and the law's own, whole. -/
namespace Law
open PySem (Str)
open Tr Tr.Ev
theorem V7Ok.frzs {v : V7} (h : V7Ok v) : frzs v.l = v.l := by
  show [frz v.a, frz v.b, frz v.c, frz v.d, frz v.e, frz v.f, frz v.g] = _
  rw [frz_of_fro h.a.fr, frz_of_fro h.b.fr, frz_of_fro h.c.fr, frz_of_fro h.d.fr, frz_of_fro h.e.fr, frz_of_fro h.f.fr, frz_of_fro h.g.fr]
  rfl
theorem wpart_ok {v : V7} (h : V7Ok v) : f_wrong_part v.l = .ok (wrongV v) v.l := by
  have ea := (items_any h.a h.ae).e
  have eb := (write_any h.b h.be).e
  have ef := (items_any h.f h.fe).e
  have eg := word_any (ks := SCOPES) h.g
  have eg : f_is_word [v.g, .tup [.str "sent", .str "all"]] = .ok (.bl (wordB SCOPES v.g)) [v.g, .tup [.str "sent", .str "all"]] := eg
  have ee := fun (q : itemsB true v.a = true) => eqE q
  obtain ⟨o7, o8, o9, lp⟩ := wl_loop h.c h.d h.e (a0 := some v.a) (a1 := some v.b) (a2 := some v.c) (a3 := some v.d) (a4 := some v.e) (a5 := some v.f) (a6 := some v.g)
  have fa := h.a.fr
  have fb := h.b.fr
  have fc := h.c.fr
  have fd := h.d.fr
  have fe := h.e.fr
  have ff := h.f.fr
  have fg := h.g.fr
  have zc := frz_of_fro fc
  have zd := frz_of_fro fd
  have ze := frz_of_fro fe
  unfold wrongV V7.l
  generalize v.a = a at *
  generalize v.b = b at *
  generalize v.c = c at *
  generalize v.d = d at *
  generalize v.e = e at *
  generalize v.f = f at *
  generalize v.g = g at *
  have hw : iE (eTup (aCons (eTup (aCons (eC (.str "many")) (aCons (eNm 2) (aCons (eC (.tup [.str "all", .str "first", .str "none", .str "refuse"])) aNil)))) (aCons (eTup (aCons (eC (.str "new")) (aCons (eNm 3) (aCons (eC (.tup [.str "skip", .str "make", .str "refuse"])) aNil)))) (aCons (eTup (aCons (eC (.str "gone")) (aCons (eNm 4) (aCons (eC (.tup [.str "keep", .str "drop"])) aNil)))) aNil)))) [some a, some b, some c, some d, some e, some f, some g, none, none, none] = .ok (WTB [c, d, e]) [some a, some b, some c, some d, some e, some f, some g, none, none, none] := by
    refine iE_run (v := .tup (WTB [c, d, e])) ?_ ?_
    · simp -implicitDefEqProofs [zc, zd, ze]
      rfl
    · show some (Tr.frzs (WTB [c, d, e])) = _
      show some [PV.tup [.str "many", frz c, .tup (MANYS.map .str)], .tup [.str "new", frz d, .tup (NEWS.map .str)], .tup [.str "gone", frz e, .tup (GONES.map .str)]] = _
      rw [zc, zd, ze]; rfl
  have l1 := fun r => sFor_ret (b := bT [(bN 7), (bN 8), (bN 9)]) (s := WLB) (u := r) (ρ' := [some a, some b, some c, some d, some e, some f, some g, o7, o8, o9]) hw
  have l2 := sFor_run (b := bT [(bN 7), (bN 8), (bN 9)]) (s := WLB) (ρ' := [some a, some b, some c, some d, some e, some f, some g, o7, o8, o9]) hw
  unfold WLB at l1 l2 lp
  simp only [f_wrong_part, b_wrong_part]
  rw [mk_eq rfl]
  generalize itemsB true a = ia at *
  generalize writeB b = wb at *
  generalize wordB MANYS c = wc at *
  generalize wordB NEWS d = wd at *
  generalize wordB GONES e = we at *
  generalize itemsB true f = jf at *
  generalize wordB SCOPES g = wg at *
  generalize isE a = za at *
  cases ia with
  | false => simp -implicitDefEqProofs [ea, fa]
  | true =>
    have ee := ee rfl
    cases za with
    | true => simp -implicitDefEqProofs [ea, ee, fa]
    | false =>
      cases wb with
      | false => simp -implicitDefEqProofs [ea, ee, eb, fa, fb]
      | true =>
        cases wc with
        | false =>
          have l1 := l1 _ lp
          clear l2 lp hw
          simp -implicitDefEqProofs [ea, ee, eb, fa, fb, l1]
        | true =>
          cases wd with
          | false =>
            have l1 := l1 _ lp
            clear l2 lp hw
            simp -implicitDefEqProofs [ea, ee, eb, fa, fb, l1]
          | true =>
            cases we with
            | false =>
              have l1 := l1 _ lp
              clear l2 lp hw
              simp -implicitDefEqProofs [ea, ee, eb, fa, fb, l1]
            | true =>
              have l2 := l2 lp
              clear l1 lp hw
              cases jf <;> cases wg <;> simp -implicitDefEqProofs [ea, ee, eb, ef, eg, fa, fb, ff, fg, l2]
theorem str_or {v : PV} {ks : List Str} (h : P1 v) : (isA .str v = some false ∧ wordB ks v = false) ∨ (isA .str v = some true ∧ cIn v (.tup (ks.map .str)) = some (wordB ks v) ∧ cNi v (.tup (ks.map .str)) = some (!wordB ks v)) := by
  have q := isa_str_any h.lf
  by_cases s : isS v = true
  · obtain ⟨x, rfl⟩ := isS_ex s
    have e := inT_strs (x := x) (ws := ks)
    refine .inr ⟨rfl, e, ?_⟩
    unfold cNi
    rw [e]; rfl
  · have sf : isS v = false := by simpa using s
    rw [sf] at q
    exact .inl ⟨q, wordB_f sf⟩
theorem lwrong_ok {v : V7} {w : Bool} (h : V7Ok v) : f__law_wrong [.lst w v.l] = .ok (wrongV v) [.lst false v.l] := by
  have ea := lnames_any (k := true) h.a h.ae
  have eb := (lwrite_any h.b h.be).e
  have ef := lnames_any (k := true) h.f h.fe
  have ee := fun (q : itemsB true v.a = true) => eqE q
  have zl := h.frzs
  have sc := str_or (ks := MANYS) h.c
  have sd := str_or (ks := NEWS) h.d
  have se := str_or (ks := GONES) h.e
  have sg := str_or (ks := SCOPES) h.g
  have fa := h.a.fr
  have fb := h.b.fr
  have fc := h.c.fr
  have fd := h.d.fr
  have fe := h.e.fr
  have ff := h.f.fr
  have fg := h.g.fr
  unfold wrongV
  unfold V7.l at *
  generalize v.a = a at *
  generalize v.b = b at *
  generalize v.c = c at *
  generalize v.d = d at *
  generalize v.e = e at *
  generalize v.f = f at *
  generalize v.g = g at *
  simp only [List.map_cons, List.map_nil] at sc sd se sg
  simp only [f__law_wrong, b__law_wrong]
  rw [mk_eq rfl]
  generalize itemsB true a = ia at *
  generalize writeB b = wb at *
  generalize wordB MANYS c = wc at *
  generalize wordB NEWS d = wd at *
  generalize wordB GONES e = we at *
  generalize itemsB true f = jf at *
  generalize wordB SCOPES g = wg at *
  generalize isE a = za at *
  have st : bTL [(bN 1), (bN 2), (bN 3), (bN 4), (bN 5), (bN 6), (bN 7)] (.lst false [a, b, c, d, e, f, g]) [some (.lst false [a, b, c, d, e, f, g]), none, none, none, none, none, none, none] = some [some (.lst false [a, b, c, d, e, f, g]), some a, some b, some c, some d, some e, some f, some g] := rfl
  have s0 : sSetT (bTL [(bN 1), (bN 2), (bN 3), (bN 4), (bN 5), (bN 6), (bN 7)]) (eNm 0) [some (.lst w [a, b, c, d, e, f, g]), none, none, none, none, none, none, none] = .nx [some (.lst false [a, b, c, d, e, f, g]), some a, some b, some c, some d, some e, some f, some g] := by
    have zl : frz (.lst w [a, b, c, d, e, f, g]) = .lst false [a, b, c, d, e, f, g] := by rw [frz_lst, zl]
    rw [sSetT_eq, eNm_eq]
    show stR _ (nmS 0 _ (some (.lst w [a, b, c, d, e, f, g]))) = _
    rw [nmS_some, stR_ok, zl]
    rfl
  show mkR _ _ (sSeq _ _ [some (.lst w [a, b, c, d, e, f, g]), none, none, none, none, none, none, none]) = _
  rw [seq_nx s0 rfl]
  generalize PV.lst false [a, b, c, d, e, f, g] = L at *
  generalize PV.lst w [a, b, c, d, e, f, g] = L0 at *
  clear s0 st
  cases ia with
  | false => simp -implicitDefEqProofs [ea, fa]
  | true =>
    have ee := ee rfl
    cases za with
    | true => simp -implicitDefEqProofs [ea, ee, fa]
    | false =>
      cases wb with
      | false => simp -implicitDefEqProofs [ea, ee, eb, fa, fb]
      | true =>
        cases wc with
        | false => rcases sc with ⟨qc, _⟩ | ⟨qc, ic, nc⟩ <;> simp -implicitDefEqProofs [*]
        | true =>
          rcases sc with ⟨qc, z⟩ | ⟨qc, ic, nc⟩
          · cases z
          cases wd with
          | false => rcases sd with ⟨qc, _⟩ | ⟨qd, id, nd⟩ <;> simp -implicitDefEqProofs [*]
          | true =>
            rcases sd with ⟨qd, z⟩ | ⟨qd, id, nd⟩
            · cases z
            cases we with
            | false => rcases se with ⟨qc, _⟩ | ⟨qe, ie, ne⟩ <;> simp -implicitDefEqProofs [*]
            | true =>
              rcases se with ⟨qe, z⟩ | ⟨qe, ie, ne⟩
              · cases z
              cases jf with
              | false => simp -implicitDefEqProofs [ea, ee, eb, ef, fa, fb, ff, qc, nc, qd, nd, qe, ne]
              | true =>
                rcases sg with ⟨qg, z⟩ | ⟨qg, ig, ng⟩
                · subst z
                  simp -implicitDefEqProofs [ea, ee, eb, ef, fa, fb, ff, qc, nc, qd, nd, qe, ne, qg]
                · cases wg <;> simp -implicitDefEqProofs [ea, ee, eb, ef, fa, fb, ff, qc, nc, qd, nd, qe, ne, qg, ig]
end Law
set_option Elab.async false
set_option linter.all false
set_option maxRecDepth 100000
set_option maxHeartbeats 4000000
/-! k22: joinings made or refused. -/
namespace Law
open PySem (Str)
open Tr Tr.Ev
theorem wrongV_cases (v : V7) : wrongV v = .non ∨ ∃ p : Str, wrongV v = .str p := by
  unfold wrongV
  split
  · split
    · split
      · split
        · split
          · split
            · split
              · exact .inl rfl
              · exact .inr ⟨_, rfl⟩
            · exact .inr ⟨_, rfl⟩
          · exact .inr ⟨_, rfl⟩
        · exact .inr ⟨_, rfl⟩
      · exact .inr ⟨_, rfl⟩
    · exact .inr ⟨_, rfl⟩
  · exact .inr ⟨_, rfl⟩
theorem init_yes {v : V7} (h : V7Ok v) (hw : wrongV v = .non) : f_Joining___init__ (.ins true 4 [] :: v.l) = .ok .non (.ins true 4 [.tup v.l] :: v.l) := by
  have e := wpart_ok h
  rw [hw] at e
  have fa := h.a.fr
  have fb := h.b.fr
  have fc := h.c.fr
  have fd := h.d.fr
  have fe := h.e.fr
  have ff := h.f.fr
  have fg := h.g.fr
  have za := frz_of_fro fa
  have zb := frz_of_fro fb
  have zc := frz_of_fro fc
  have zd := frz_of_fro fd
  have ze := frz_of_fro fe
  have zf := frz_of_fro ff
  have zg := frz_of_fro fg
  unfold V7.l at *
  simp only [f_Joining___init__, b_Joining___init__]
  rw [mk_eq rfl]
  simp -implicitDefEqProofs [e, fa, fb, fc, fd, fe, ff, fg, za, zb, zc, zd, ze, zf, zg, putFld]
theorem init_no {v : V7} {p : Str} (h : V7Ok v) (hw : wrongV v = .str p) : f_Joining___init__ (.ins true 4 [] :: v.l) = .er ⟨3, [.str p]⟩ (.ins true 4 [] :: v.l) := by
  have e := wpart_ok h
  rw [hw] at e
  have fa := h.a.fr
  have fb := h.b.fr
  have fc := h.c.fr
  have fd := h.d.fr
  have fe := h.e.fr
  have ff := h.f.fr
  have fg := h.g.fr
  have nn : cNotN (.str p) = some true := rfl
  unfold V7.l at *
  simp only [f_Joining___init__, b_Joining___init__]
  rw [mk_eq rfl]
  simp -implicitDefEqProofs [e, fa, fb, fc, fd, fe, ff, fg, nn]
abbrev jn (b : Bool) (v : V7) : PV := .ins b 4 [.tup v.l]
def tl7 (t : Bool) (v : V7) : PV := if t = true then .tup v.l else .lst false v.l
theorem tl7_frz {t : Bool} {v : V7} (h : V7Ok v) : frz (tl7 t v) = tl7 t v := by
  cases t
  · show frz (.lst false v.l) = _
    rw [frz_lst, h.frzs]; rfl
  · show frz (.tup v.l) = _
    rw [frz_tup, h.frzs]; rfl
theorem tl7_bT {t : Bool} {v : V7} {ρ : Env} {bs : List BF} : bTL bs (tl7 t v) ρ = bAll bs v.l ρ := by cases t <;> rfl
theorem tl7_fro {t : Bool} {v : V7} (h : V7Ok v) : fro (tl7 t v) = true := by rw [← tl7_frz h]; exact fro_frz _
theorem plain_yes {t : Bool} {v : V7} (h : V7Ok v) (hw : wrongV v = .non) : f__law_plain [tl7 t v] = .ok (jn true v) [tl7 t v] := by
  have e := init_yes h hw
  have z := tl7_frz (t := t) h
  have bt := fun ρ bs => tl7_bT (t := t) (v := v) (ρ := ρ) (bs := bs)
  have fl := tl7_fro (t := t) h
  have fa := h.a.fr
  have fb := h.b.fr
  have fc := h.c.fr
  have fd := h.d.fr
  have fe := h.e.fr
  have ff := h.f.fr
  have fg := h.g.fr
  have pe : permF [0, 1, 2, 3, 4, 5, 6, 7] [0, 1, 2, 3, 4, 5, 6, 7] f_Joining___init__ (.ins true 4 [] :: v.l) = .ok .non (.ins true 4 [.tup v.l] :: v.l) := by
    unfold permF
    rw [show gP [0, 1, 2, 3, 4, 5, 6, 7] (.ins true 4 [] :: v.l) = .ins true 4 [] :: v.l from rfl, e]
    rfl
  unfold jn
  unfold V7.l at *
  generalize tl7 t v = L at *
  have g1 : gP [] [PV.str "refuse", .str "refuse", .str "keep", .tup [], .str "sent"] = [] := rfl
  simp only [f__law_plain, b__law_plain, g1, List.append_nil]
  rw [mk_eq rfl]
  simp -implicitDefEqProofs [z, bt, pe, fl, fa, fb, fc, fd, fe, ff, fg]
theorem plain_no {t : Bool} {v : V7} {p : Str} (h : V7Ok v) (hw : wrongV v = .str p) : f__law_plain [tl7 t v] = .er ⟨3, [.str p]⟩ [tl7 t v] := by
  have e := init_no h hw
  have z := tl7_frz (t := t) h
  have bt := fun ρ bs => tl7_bT (t := t) (v := v) (ρ := ρ) (bs := bs)
  have fl := tl7_fro (t := t) h
  have fa := h.a.fr
  have fb := h.b.fr
  have fc := h.c.fr
  have fd := h.d.fr
  have fe := h.e.fr
  have ff := h.f.fr
  have fg := h.g.fr
  have pe : permF [0, 1, 2, 3, 4, 5, 6, 7] [0, 1, 2, 3, 4, 5, 6, 7] f_Joining___init__ (.ins true 4 [] :: v.l) = .er ⟨3, [.str p]⟩ (.ins true 4 [] :: v.l) := by
    unfold permF
    rw [show gP [0, 1, 2, 3, 4, 5, 6, 7] (.ins true 4 [] :: v.l) = .ins true 4 [] :: v.l from rfl, e]
    rfl
  unfold V7.l at *
  generalize tl7 t v = L at *
  have g1 : gP [] [PV.str "refuse", .str "refuse", .str "keep", .tup [], .str "sent"] = [] := rfl
  simp only [f__law_plain, b__law_plain, g1, List.append_nil]
  rw [mk_eq rfl]
  simp -implicitDefEqProofs [z, bt, pe, fl, fa, fb, fc, fd, fe, ff, fg]
theorem named_yes {t : Bool} {v : V7} (h : V7Ok v) (hw : wrongV v = .non) : f__law_by_name [tl7 t v] = .ok (jn true v) [tl7 t v] := by
  have e := init_yes h hw
  have z := tl7_frz (t := t) h
  have bt := fun ρ bs => tl7_bT (t := t) (v := v) (ρ := ρ) (bs := bs)
  have fl := tl7_fro (t := t) h
  have fa := h.a.fr
  have fb := h.b.fr
  have fc := h.c.fr
  have fd := h.d.fr
  have fe := h.e.fr
  have ff := h.f.fr
  have fg := h.g.fr
  have pe : permF [0, 7, 6, 5, 4, 3, 2, 1] [0, 7, 6, 5, 4, 3, 2, 1] f_Joining___init__ [.ins true 4 [], v.g, v.f, v.e, v.d, v.c, v.b, v.a] = .ok .non [.ins true 4 [.tup v.l], v.g, v.f, v.e, v.d, v.c, v.b, v.a] := by
    unfold permF
    rw [show gP [0, 7, 6, 5, 4, 3, 2, 1] [.ins true 4 [], v.g, v.f, v.e, v.d, v.c, v.b, v.a] = .ins true 4 [] :: v.l from rfl, e]
    rfl
  unfold jn
  unfold V7.l at *
  generalize tl7 t v = L at *
  have g1 : gP [] [PV.str "refuse", .str "refuse", .str "keep", .tup [], .str "sent"] = [] := rfl
  simp only [f__law_by_name, b__law_by_name, g1, List.append_nil]
  rw [mk_eq rfl]
  simp -implicitDefEqProofs [z, bt, pe, fl, fa, fb, fc, fd, fe, ff, fg]
theorem named_no {t : Bool} {v : V7} {p : Str} (h : V7Ok v) (hw : wrongV v = .str p) : f__law_by_name [tl7 t v] = .er ⟨3, [.str p]⟩ [tl7 t v] := by
  have e := init_no h hw
  have z := tl7_frz (t := t) h
  have bt := fun ρ bs => tl7_bT (t := t) (v := v) (ρ := ρ) (bs := bs)
  have fl := tl7_fro (t := t) h
  have fa := h.a.fr
  have fb := h.b.fr
  have fc := h.c.fr
  have fd := h.d.fr
  have fe := h.e.fr
  have ff := h.f.fr
  have fg := h.g.fr
  have pe : permF [0, 7, 6, 5, 4, 3, 2, 1] [0, 7, 6, 5, 4, 3, 2, 1] f_Joining___init__ [.ins true 4 [], v.g, v.f, v.e, v.d, v.c, v.b, v.a] = .er ⟨3, [.str p]⟩ [.ins true 4 [], v.g, v.f, v.e, v.d, v.c, v.b, v.a] := by
    unfold permF
    rw [show gP [0, 7, 6, 5, 4, 3, 2, 1] [.ins true 4 [], v.g, v.f, v.e, v.d, v.c, v.b, v.a] = .ins true 4 [] :: v.l from rfl, e]
    rfl
  unfold V7.l at *
  generalize tl7 t v = L at *
  have g1 : gP [] [PV.str "refuse", .str "refuse", .str "keep", .tup [], .str "sent"] = [] := rfl
  simp only [f__law_by_name, b__law_by_name, g1, List.append_nil]
  rw [mk_eq rfl]
  simp -implicitDefEqProofs [z, bt, pe, fl, fa, fb, fc, fd, fe, ff, fg]
theorem made_yes {t n : Bool} {v : V7} (h : V7Ok v) (hw : wrongV v = .non) : f__law_made [tl7 t v, .bl n] = .ok (.tup [jn false v, .non, .bl true]) [tl7 t v, .bl n] := by
  have e1 := plain_yes (t := t) h hw
  have e2 := named_yes (t := t) h hw
  have fl := tl7_fro (t := t) h
  have zl := h.frzs
  unfold jn at *
  generalize v.l = l at *
  generalize tl7 t v = L at *
  simp only [f__law_made, b__law_made]
  rw [mk_eq rfl]
  cases n <;> simp -implicitDefEqProofs [e1, e2, fl, zl, frz]
theorem made_no {t n : Bool} {v : V7} {p : Str} (h : V7Ok v) (hw : wrongV v = .str p) : f__law_made [tl7 t v, .bl n] = .ok (.tup [.non, .str p, .bl true]) [tl7 t v, .bl n] := by
  have e1 := plain_no (t := t) h hw
  have e2 := named_no (t := t) h hw
  have fl := tl7_fro (t := t) h
  generalize tl7 t v = L at *
  simp only [f__law_made, b__law_made]
  rw [mk_eq rfl]
  cases n <;> simp -implicitDefEqProofs [e1, e2, fl, eAnd, xfld, isaX, frz]
end Law
set_option Elab.async false
set_option linter.all false
set_option maxRecDepth 100000
set_option maxHeartbeats 4000000
/-! k22: _law_same of what is the same. -/
namespace Law
open PySem (Str)
open Tr Tr.Ev
theorem lf_dat : ∀ {n : Nat} {v : PV}, dat n v = true → lf v = true
  | n, .con k, h => by cases n <;> cases h
  | n, .exc .., h => by cases n <;> cases h
  | n, .st .., h => by cases n <;> cases h
  | n, .ins .., h => by cases n <;> cases h
  | _, .non, _ => rfl
  | _, .bl _, _ => rfl
  | _, .int _, _ => rfl
  | _, .str _, _ => rfl
  | _, .tup _, _ => rfl
  | _, .lst .., _ => rfl
  | _, .dct .., _ => rfl
theorem isa_ex {v : PV} (h : lf v = true) (t : Ty) (ht : t = .list ∨ t = .tuple ∨ t = .str ∨ t = .int ∨ t = .bool) : ∃ b, isA t v = some b := by
  rcases ht with rfl | rfl | rfl | rfl | rfl <;> cases v <;> first | exact ⟨_, rfl⟩ | cases h
def isKd (v : PV) : Int → Bool := fun k => if k = 0 then (isA .list v).getD false else if k = 1 then (isA .tuple v).getD false else if k = 2 then (isA .str v).getD false else (isA .int v).getD false
theorem is_ok {v : PV} (h : lf v = true) (k : Int) : f__law_is [v, .int k] = .ok (.bl (isKd v k)) [v, .int k] := by
  obtain ⟨b0, e0⟩ := isa_ex h .list (.inl rfl)
  obtain ⟨b1, e1⟩ := isa_ex h .tuple (.inr (.inl rfl))
  obtain ⟨b2, e2⟩ := isa_ex h .str (.inr (.inr (.inl rfl)))
  obtain ⟨b3, e3⟩ := isa_ex h .int (.inr (.inr (.inr (.inl rfl))))
  unfold isKd
  rw [e0, e1, e2, e3]
  simp only [Option.getD_some]
  simp only [f__law_is, b__law_is]
  rw [mk_eq rfl]
  by_cases k0 : k = 0
  · subst k0; simp -implicitDefEqProofs [e0, eq_ii]
  · by_cases k1 : k = 1
    · subst k1; simp -implicitDefEqProofs [e1, eq_ii]
    · by_cases k2 : k = 2
      · subst k2; simp -implicitDefEqProofs [e2, eq_ii]
      · simp -implicitDefEqProofs [e3, eq_ii, k0, k1, k2]
/-- the same twice; a list may be held or not -/
inductive Tw : PV → PV → Prop
  | eq {v : PV} (h : fro v = true) : Tw v v
  | li {a b : Bool} {xs : List PV} (h : fros xs = true) : Tw (.lst a xs) (.lst b xs)
theorem Tw.kd {v w : PV} (h : Tw v w) : ∀ k, isKd v k = isKd w k := by
  cases h with
  | eq _ => exact fun _ => rfl
  | li _ => exact fun _ => rfl
theorem Tw.isa {v w : PV} (h : Tw v w) (t : Ty) : isA t v = isA t w := by
  cases h with
  | eq _ => rfl
  | li _ => cases t <;> rfl
theorem ne_bb {x : Bool} : cNe (.bl x) (.bl x) = some false := by cases x <;> rfl
def SKB : SF := (sIf (tPV2 cNe (.ev (eCall f__law_is [(.nm 0), (.nm 2)] [])) (.ev (eCall f__law_is [(.nm 1), (.nm 2)] []))) (sRet (eC (.bl false))) sNx)
theorem skb_turn {v w : PV} {k : Int} (h : Tw v w) (lv : lf v = true) (lw : lf w = true) {o3 : Option PV} : SKB [some v, some w, some (.int k), o3] = .nx [some v, some w, some (.int k), o3] := by
  have e1 := is_ok lv k
  have e2 := is_ok lw k
  rw [← h.kd k] at e2
  have n := ne_bb (x := isKd v k)
  generalize isKd v k = b at *
  unfold SKB
  cases fv : fro v <;> cases fw : fro w <;> simp -implicitDefEqProofs [e1, e2, n, fv, fw]
theorem kinds_ok {v w : PV} (h : Tw v w) (lv : lf v = true) (lw : lf w = true) : ∃ o2, sFor (iE (eTup (aCons (eC (.int 0)) (aCons (eC (.int 1)) (aCons (eC (.int 2)) (aCons (eC (.int 3)) aNil)))))) (bN 2) SKB [some v, some w, none, none] = .nx [some v, some w, o2, none] := by
  have hw : iE (eTup (aCons (eC (.int 0)) (aCons (eC (.int 1)) (aCons (eC (.int 2)) (aCons (eC (.int 3)) aNil))))) [some v, some w, none, none] = .ok [.int 0, .int 1, .int 2, .int 3] [some v, some w, none, none] := iE_run (v := .tup [.int 0, .int 1, .int 2, .int 3]) (by simp -implicitDefEqProofs) rfl
  obtain ⟨ρ', e, o2, rfl⟩ := loop_run (b := bN 2) (s := SKB) (xs := [.int 0, .int 1, .int 2, .int 3]) (ρ := [some v, some w, none, none]) (fun _ ρ => ∃ o2, ρ = [some v, some w, o2, none]) ⟨none, rfl⟩ fun i x ρ hx hp => by
    obtain ⟨o2, rfl⟩ := hp
    obtain ⟨k, rfl⟩ : ∃ k : Int, x = .int k := by
      have := List.mem_of_getElem? hx
      simp only [List.mem_cons, List.not_mem_nil, or_false] at this
      rcases this with rfl | rfl | rfl | rfl <;> exact ⟨_, rfl⟩
    exact ⟨_, rfl, .inl ⟨_, skb_turn h lv lw, _, rfl⟩⟩
  exact ⟨o2, sFor_run hw e⟩
theorem eqv_bb {x : Bool} : cEq (.bl x) (.bl x) = some true := by cases x <;> rfl
theorem eqv_rfl : (∀ v : PV, ∀ n, dat n v = true → eqv v v = true) := by
  intro v
  induction v using PV.rec (motive_2 := fun xs => ∀ n, xs.all (dat n) = true → eqvs xs xs = true) with
  | non => intros; rfl
  | bl b => intros; cases b <;> rfl
  | int i => intros; show (i == i) = true; simp
  | str x => intros; show (x == x) = true; simp
  | tup xs ih => intro n h; cases n with
    | zero => cases h
    | succ n => exact ih n h
  | lst w xs ih => intro n h; cases n with
    | zero => cases h
    | succ n => exact ih n h
  | dct w ks vs ih => intro n h; cases n <;> cases h
  | ins w c vs ih => intro n h; cases n <;> cases h
  | con k => intro n h; cases n <;> cases h
  | exc k vs ih => intro n h; cases n <;> cases h
  | st w xs ih => intro n h; cases n <;> cases h
  | nil => rfl
  | cons x xs ih1 ih2 =>
    rename_i n h
    rw [List.all_cons, Bool.and_eq_true] at h
    rw [eqvs, ih1 n h.1, ih2 n h.2]; rfl
theorem dat_mono : ∀ {v : PV} {n m : Nat}, n ≤ m → dat n v = true → dat m v = true := by
  intro v
  induction v using PV.rec (motive_2 := fun xs => ∀ {n m : Nat}, n ≤ m → xs.all (dat n) = true → xs.all (dat m) = true) with
  | non => intro n m _ _; cases m <;> rfl
  | bl b => intro n m _ _; cases m <;> rfl
  | int i => intro n m _ _; cases m <;> rfl
  | str x => intro n m _ _; cases m <;> rfl
  | tup xs ih => intro n m l h; cases n with
    | zero => cases h
    | succ n => cases m with
      | zero => omega
      | succ m => exact ih (n := n) (m := m) (by omega) h
  | lst w xs ih => intro n m l h; cases n with
    | zero => cases h
    | succ n => cases m with
      | zero => omega
      | succ m => exact ih (n := n) (m := m) (by omega) h
  | dct w ks vs ih => intro n m l h; cases n <;> cases h
  | ins w c vs ih => intro n m l h; cases n <;> cases h
  | con k => intro n m l h; cases n <;> cases h
  | exc k vs ih => intro n m l h; cases n <;> cases h
  | st w xs ih => intro n m l h; cases n <;> cases h
  | nil => rfl
  | cons x xs ih1 ih2 =>
    rename_i n m l h
    rw [List.all_cons, Bool.and_eq_true] at h ⊢
    exact ⟨ih1 l h.1, ih2 l h.2⟩
theorem Tw.len {v w : PV} (h : Tw v w) : fLen v = fLen w := by cases h <;> rfl
theorem Tw.ix {v w : PV} (h : Tw v w) (i : Int) : ix v (.int i) = ix w (.int i) := by cases h <;> rfl
theorem Tw.eq' {v w : PV} (h : Tw v w) {n : Nat} (hn : n ≤ 20) (d : dat n v = true) : cEq v w = some true := by
  have d' := dat_mono (m := deep) hn d
  have e := eqv_rfl v _ d
  cases h with
  | eq _ => unfold cEq; rw [d', e]; rfl
  | @li a b xs hx =>
    unfold cEq
    have d2 : dat deep (.lst b xs) = true := d'
    rw [d', d2]
    have e' : eqv (.lst a xs) (.lst b xs) = true := e
    rw [e']; rfl
theorem isN_any {v : PV} (h : lf v = true) : cIsN v = some true ∨ cIsN v = some false := by cases v <;> first | exact .inl rfl | exact .inr rfl | cases h
theorem Tw.isN {v w : PV} (h : Tw v w) : cIsN v = cIsN w := by cases h <;> rfl
theorem Tw.lf {v w : PV} (h : Tw v w) (l : lf v = true) : lf w = true := by cases h <;> first | exact l | rfl
def items' : PV → Option (List PV)
  | .tup xs => some xs
  | .lst _ xs => some xs
  | _ => none
/-- data to a depth, no list too long -/
def okD : Nat → PV → Bool
  | _, .non => true
  | _, .bl _ => true
  | _, .int _ => true
  | _, .str _ => true
  | 0, _ => false
  | n + 1, .tup xs => decide (xs.length ≤ 1000) && xs.all (okD n)
  | n + 1, .lst _ xs => decide (xs.length ≤ 1000) && xs.all (okD n)
  | _ + 1, _ => false
theorem okD_dat : ∀ {n : Nat} {v : PV}, okD n v = true → dat n v = true
  | n, .non, _ => by cases n <;> rfl
  | n, .bl _, _ => by cases n <;> rfl
  | n, .int _, _ => by cases n <;> rfl
  | n, .str _, _ => by cases n <;> rfl
  | 0, .tup _, h => by cases h
  | 0, .lst .., h => by cases h
  | n, .dct .., h => by cases n <;> cases h
  | n, .ins .., h => by cases n <;> cases h
  | n, .con _, h => by cases n <;> cases h
  | n, .exc .., h => by cases n <;> cases h
  | n, .st .., h => by cases n <;> cases h
  | n + 1, .tup xs, h => by
    have h : (decide (xs.length ≤ 1000) && xs.all (okD n)) = true := h
    rw [Bool.and_eq_true] at h
    exact List.all_eq_true.mpr fun x m => okD_dat (List.all_eq_true.mp h.2 x m)
  | n + 1, .lst _ xs, h => by
    have h : (decide (xs.length ≤ 1000) && xs.all (okD n)) = true := h
    rw [Bool.and_eq_true] at h
    exact List.all_eq_true.mpr fun x m => okD_dat (List.all_eq_true.mp h.2 x m)
theorem okD_items {n : Nat} {v : PV} {xs : List PV} (h : okD n v = true) (e : items' v = some xs) : ∃ m, n = m + 1 ∧ xs.length ≤ 1000 ∧ ∀ x ∈ xs, okD m x = true := by
  cases v <;> first | cases e | skip
  all_goals
    cases n with
    | zero => cases h
    | succ m =>
      have h : (decide (_ ≤ 1000) && xs.all (okD m)) = true := h
      rw [Bool.and_eq_true] at h
      exact ⟨m, rfl, of_decide_eq_true h.1, List.all_eq_true.mp h.2⟩
theorem Tw.fx {v w : PV} {xs : List PV} (h : Tw v w) (e : items' v = some xs) : fros xs = true := by
  cases h with
  | eq f =>
    cases v <;> first | cases e | skip
    · simpa using f
    · rename_i w
      cases w with
      | true => simp at f
      | false => simpa using f
  | li f => cases e; exact f
theorem ix_items {v : PV} {xs : List PV} (e : items' v = some xs) (i : Int) : ix v (.int i) = (atI xs i).bind onlyFro := by
  cases v <;> first | cases e | skip
  all_goals rfl
theorem len_items {v : PV} {xs : List PV} (e : items' v = some xs) : fLen v = some (.int (xs.length : Nat)) := by
  cases v <;> first | cases e | skip
  all_goals rfl
theorem same_step {rec : FF} {n : Nat} {v w : PV} (hn : n ≤ 20) (h : Tw v w) (d : dat n v = true) (hl : ∀ xs, items' v = some xs → xs.length ≤ 1000 ∧ ∀ x ∈ xs, rec [x, x] = .ok (.bl true) [x, x]) : mk [true, true] 4 (b__law_same rec) [v, w] = .ok (.bl true) [v, w] := by
  have lv := lf_dat d
  have lw := h.lf lv
  obtain ⟨o2, ks⟩ := kinds_ok h lv lw
  unfold SKB at ks
  obtain ⟨bb, eb⟩ := isa_ex lv .bool (.inr (.inr (.inr (.inr rfl))))
  have eb' : isA .bool w = some bb := by rw [← h.isa]; exact eb
  have eq := h.eq' hn d
  obtain ⟨bl, el⟩ := isa_ex lw .list (.inl rfl)
  obtain ⟨bt, et⟩ := isa_ex lw .tuple (.inr (.inl rfl))
  simp only [b__law_same]
  rw [mk_eq rfl]
  cases bb with
  | true => simp -implicitDefEqProofs [eb, eb', eAnd, eq]
  | false =>
    cases it : items' v with
    | none =>
      have nl : bl = false ∧ bt = false := by
        rw [← h.isa] at el et
        cases v <;> first | (cases lv; done) | (cases it; done) | (cases el; cases et; exact ⟨rfl, rfl⟩)
      obtain ⟨rfl, rfl⟩ := nl
      have nn := h.isN
      rcases isN_any lv with q | q
      · have q' : cIsN w = some true := by rw [← nn]; exact q
        have e1 := eqv_bb (x := true)
        simp -implicitDefEqProofs [eb, eb', eAnd, eq, ks, el, et, q, q', e1]
      · have q' : cIsN w = some false := by rw [← nn]; exact q
        have e1 := eqv_bb (x := false)
        simp -implicitDefEqProofs [eb, eb', eAnd, eq, ks, el, et, q, q', e1]
    | some xs =>
      obtain ⟨l, hr⟩ := hl xs it
      have fx := h.fx it
      have fx' : ∀ x ∈ xs, fro x = true := List.all_eq_true.mp (by rw [← fros_eq]; exact fx)
      have ls := len_items it
      have ls' : fLen w = some (.int (xs.length : Nat)) := by rw [← h.len]; exact ls
      have nl : bl = true ∨ (bl = false ∧ bt = true) := by
        rw [← h.isa] at el et
        cases v <;> first | (cases it; done) | skip
        · cases el; cases et; exact .inr ⟨rfl, rfl⟩
        · cases el; exact .inl rfl
      have hr1 : iRange1 (eP1 fLen (.nm 1)) [some v, some w, o2, none] = .ok ((List.range xs.length).map fun i => PV.int (i : Nat)) [some v, some w, o2, none] := by
        have := range1_run (f := eP1 fLen (.nm 1)) (ρ := [some v, some w, o2, none]) (ρ1 := [some v, some w, o2, none]) (n := (xs.length : Nat)) (by
          simp -implicitDefEqProofs [ls']) (by omega) (by omega)
        rwa [Int.toNat_natCast] at this
      have core := comp_pure (own := [3]) (b := bN 3) (t := (tNot (tE (eCall rec [(.ev (eP2 ix (.nm 0) (.nm 3))), (.ev (eP2 ix (.nm 1) (.nm 3)))] [])))) (f := eNm 3) (ρ := [some v, some w, o2, none]) (fun i : Nat => PV.int (i : Nat)) (fun _ => false) (fun _ => .non) (l := List.range xs.length) fun i m => by
        have hi : i < xs.length := List.mem_range.mp m
        have fi := fx' _ (List.getElem_mem hi)
        have ei : ix v (.int (i : Nat)) = some xs[i] := by
          rw [ix_items it]
          unfold atI
          rw [ixN_nn (by omega) (by omega), Option.bind_some, Int.toNat_natCast, List.getElem?_eq_getElem hi]
          exact onlyFro_t fi
        have ei' : ix w (.int (i : Nat)) = some xs[i] := by rw [← h.ix]; exact ei
        have e := hr _ (List.getElem_mem hi)
        refine ⟨[some v, some w, o2, some (.int (i : Nat))], [some v, some w, o2, some (.int (i : Nat))], rfl, ?_, fun _ => rfl, fun h => by cases h⟩
        generalize xs[i] = x at *
        simp -implicitDefEqProofs [ei, ei', e]
      have fe : ((List.range xs.length).filter fun _ => false) = [] := by simp
      rw [fe] at core
      have c := eComp_run (own := [3]) hr1 core
      have e0 : cEq0 (.lst true []) (.lst true []) = some true := rfl
      have c : eComp [3] (iRange1 (eP1 fLen (.nm 1))) (bN 3) (tNot (tE (eCall rec [(.ev (eP2 ix (.nm 0) (.nm 3))), (.ev (eP2 ix (.nm 1) (.nm 3)))] []))) (eNm 3) [some v, some w, o2, none] = .ok (.lst true []) [some v, some w, o2, none] := c
      have ne : cNe (.int (xs.length : Nat)) (.int (xs.length : Nat)) = some false := by rw [ne_ii]; simp
      rcases nl with rfl | ⟨rfl, rfl⟩
      · simp -implicitDefEqProofs [eb, eb', eq, ks, el, et, ls, ls', ne, c, e0, -len_lst, -len_tup, -len_str]
      · simp -implicitDefEqProofs [eb, eb', eq, ks, el, et, ls, ls', ne, c, e0, -len_lst, -len_tup, -len_str]
theorem same_refl : ∀ (n : Nat) {v w : PV}, n ≤ 19 → Tw v w → okD n v = true → f__law_same (n + 1) [v, w] = .ok (.bl true) [v, w]
  | 0, v, w, _, h, ok => by
    show mk [true, true] 4 (b__law_same (f__law_same 0)) [v, w] = _
    refine same_step (n := 0) (by omega) h (okD_dat ok) fun xs e => ?_
    obtain ⟨m, z, _⟩ := okD_items ok e
    cases z
  | n + 1, v, w, hn, h, ok => by
    show mk [true, true] 4 (b__law_same (f__law_same (n + 1))) [v, w] = _
    refine same_step (n := n + 1) (by omega) h (okD_dat ok) fun xs e => ?_
    obtain ⟨m, z, l, hm⟩ := okD_items ok e
    cases z
    have fx := List.all_eq_true.mp (show xs.all fro = true by rw [← fros_eq]; exact h.fx e)
    exact ⟨l, fun x mx => same_refl n (by omega) (.eq (fx x mx)) (hm x mx)⟩
end Law
set_option Elab.async false
set_option linter.all false
set_option maxRecDepth 100000
set_option maxHeartbeats 4000000
/-! k22: parts bent. -/
namespace Law
open PySem (Str)
open Tr Tr.Ev
theorem p1_str {x : Str} : P1 (.str x) := ⟨rfl, rfl⟩
theorem p1_int {i : Int} : P1 (.int i) := ⟨rfl, rfl⟩
theorem p1_tup {xs : List PV} (h : ∀ x ∈ xs, P1 x) : P1 (.tup xs) := ⟨by rw [fro_tup, fros_eq]; exact List.all_eq_true.mpr fun x m => (h x m).fr, rfl⟩
theorem p1_lst {xs : List PV} (h : ∀ x ∈ xs, P1 x) : P1 (.lst false xs) := ⟨by rw [fro_lf, fros_eq]; exact List.all_eq_true.mpr fun x m => (h x m).fr, rfl⟩
theorem p2_of {v : PV} (h : P1 v) (n : isT v = false) : P2 v := ⟨h, fun xs e => by rw [e] at n; cases n⟩
theorem p2_tup {xs : List PV} (h : ∀ x ∈ xs, P1 x) : P2 (.tup xs) := ⟨p1_tup h, fun ys e => by cases e; exact h⟩
theorem p2_str {x : Str} : P2 (.str x) := p2_of p1_str rfl
/-- good for the place of names, of what is written -/
def DN (v : PV) : Prop := P1 v ∧ ∀ xs, v = .tup xs → (∀ x ∈ xs, P1 x) ∧ xs.length ≤ 60
def DW (v : PV) : Prop := P1 v ∧ ∀ xs, v = .tup xs → (∀ x ∈ xs, P2 x) ∧ xs.length ≤ 60
theorem DW.n {v : PV} (h : DW v) : DN v := ⟨h.1, fun xs e => ⟨fun x m => ((h.2 xs e).1 x m).p, (h.2 xs e).2⟩⟩
theorem dw_p2 {v : PV} (h : DW v) : P2 v := ⟨h.1, fun xs e x m => ((h.2 xs e).1 x m).p⟩
theorem dw_of {v : PV} (h : P1 v) (n : isT v = false) : DW v := ⟨h, fun xs e => by rw [e] at n; cases n⟩
theorem dn_tup {xs : List PV} (h : ∀ x ∈ xs, P1 x) (l : xs.length ≤ 60) : DN (.tup xs) := ⟨p1_tup h, fun ys e => by cases e; exact ⟨h, l⟩⟩
theorem dw_tup {xs : List PV} (h : ∀ x ∈ xs, P2 x) (l : xs.length ≤ 60) : DW (.tup xs) := ⟨p1_tup fun x m => (h x m).p, fun ys e => by cases e; exact ⟨h, l⟩⟩
abbrev ODD : List PV := [.non, .bl true, .int 0, .int 1, .str "", .str "key", .lst false [], .dct false [] [], .tup [], .tup [.str "all"], .str "keep", .str "All", .str "refuse"]
theorem odd_dw {v : PV} (h : v ∈ ODD) : DW v := by
  simp only [ODD, List.mem_cons, List.not_mem_nil, or_false] at h
  rcases h with rfl | rfl | rfl | rfl | rfl | rfl | rfl | rfl | rfl | rfl | rfl | rfl | rfl
  all_goals first
    | exact dw_of ⟨rfl, rfl⟩ rfl
    | exact dw_tup (xs := []) (fun _ m => absurd m List.not_mem_nil) (by decide)
    | exact dw_tup (fun x m => by rw [List.mem_singleton.mp m]; exact p2_str) (by decide)
theorem sT_to {xs : List PV} (h : fros xs = true) {i : Int} (h0 : 0 ≤ i) : sl (.tup xs) none (some i) = some (.tup (xs.take i.toNat)) := by
  show (if fros xs = true then some (PV.tup (cut xs none (some i))) else none) = _
  rw [if_pos h, cut_to h0]
theorem sT_fr {xs : List PV} (h : fros xs = true) {i : Int} (h0 : 0 ≤ i) : sl (.tup xs) (some i) none = some (.tup (xs.drop i.toNat)) := by
  show (if fros xs = true then some (PV.tup (cut xs (some i) none)) else none) = _
  rw [if_pos h, cut_fr h0]
theorem fros_all {xs : List PV} (h : ∀ x ∈ xs, P1 x) : fros xs = true := by rw [fros_eq]; exact List.all_eq_true.mpr fun x m => (h x m).fr
theorem pick_fr {xs : List PV} {d : Int} (hf : fros xs = true) (h0 : 0 ≤ d) (h1 : d < xs.length) : ∃ x ∈ xs, ix (.lst false xs) (.int d) = some x := by
  obtain ⟨x, m, e, _⟩ := pick_any (b := false) hf h0 h1
  exact ⟨x, m, e⟩
theorem sum_le {n : Nat} : ∀ {xs : List Str}, (∀ x ∈ xs, x.length ≤ n) → (xs.map (·.length)).sum ≤ xs.length * n
  | [], _ => by simp
  | x :: xs, h => by
    have := sum_le (n := n) (xs := xs) fun y m => h y (List.mem_cons_of_mem _ m)
    have h0 := h x List.mem_cons_self
    rw [List.map_cons, List.sum_cons, List.length_cons, Nat.succ_mul]
    omega
theorem join_any {b : Bool} {ws : List Str} (h : ∀ x ∈ ws, x.length ≤ 8) (l : ws.length ≤ 8) : ∃ j, fJoin (.str "") (.lst b (ws.map .str)) = some (.str j) := by
  refine ⟨Str.join "" ws, ?_⟩
  show ((Tr.allS (ws.map PV.str)).bind fun ys => if (ys.map (·.length)).sum + ys.length * ("" : Str).length ≤ big then some (PV.str (Str.join "" ys)) else none) = _
  rw [strs_map, Option.bind_some, if_pos]
  have := sum_le h
  have z : ("" : Str).length = 0 := rfl
  rw [z]
  unfold big
  have : ws.length * 8 ≤ 64 := by omega
  omega
theorem bent_names {p : PV} {pl : Int} {ws : List Str} (h : Pot p) (hp : pl = 0 ∨ pl = 5) (hw : ∀ x ∈ ws, x.length ≤ 8) (l : ws.length ≤ 8) : ∃ v p', f__law_bent [p, .int pl, .tup (ws.map .str)] = .ok v [p', .int pl, .tup (ws.map .str)] ∧ DN v ∧ Pot p' := by
  obtain ⟨d1, p1, e1, d10, d11, h1⟩ := draw_ok (m := 13) h (by decide) (by decide)
  obtain ⟨o, mo, i1⟩ := pick_fr (xs := ODD) rfl d10 d11
  obtain ⟨d2, p2, e2, d20, d21, h2⟩ := draw_ok (m := 8) h1 (by decide) (by decide)
  obtain ⟨w, mw, i2⟩ := pick_fr (xs := [.str "", .str "Size", .str "a b", .str "ninechars", .str "key", .str "size", .str "a1", .str "key "]) rfl d20 d21
  obtain ⟨x, rfl⟩ : ∃ x, w = .str x := by
    simp only [List.mem_cons, List.not_mem_nil, or_false] at mw
    rcases mw with rfl | rfl | rfl | rfl | rfl | rfl | rfl | rfl <;> exact ⟨_, rfl⟩
  obtain ⟨k, p3, e3, k0, k1, h3⟩ := draw_ok (m := (ws.length : Nat) + 1) h2 (by omega) (by omega)
  obtain ⟨d4, p4, e4, d40, d41, h4⟩ := draw_ok (m := 7) h3 (by decide) (by decide)
  have od := odd_dw mo
  have zo := frz_of_fro od.1.fr
  have fo := od.1.fr
  have wP : ∀ x ∈ ws.map PV.str, P1 x := fun x m => by
    obtain ⟨y, _, rfl⟩ := List.mem_map.mp m
    exact p1_str
  obtain ⟨W, hW⟩ : ∃ W, W = ws.map PV.str := ⟨_, rfl⟩
  have lW : W.length = ws.length := by rw [hW, List.length_map]
  have ln := len_encT (enc := PV.str) (xs := ws)
  have fl := list_encT frStr (xs := ws)
  obtain ⟨j, hj⟩ := join_any (b := true) hw l
  rw [← hW] at wP ln fl hj ⊢
  have fW := fros_all wP
  have zW := frzs_of_fros fW
  have tkP : ∀ n, ∀ x ∈ W.take n, P1 x := fun n x m => wP x (List.mem_of_mem_take m)
  have drP : ∀ n, ∀ x ∈ W.drop n, P1 x := fun n x m => wP x (List.mem_of_mem_drop m)
  have s1 := sT_to fW (i := 1) (by decide)
  have s2 := sT_to fW k0
  have s3 := sT_fr fW k0
  have b1 : big = big := rfl
  have a1 := addT_pv fW (fros_all (tkP 1)) (by rw [List.length_take]; unfold big; omega)
  have pw : ∀ x' ∈ W.take k.toNat ++ [PV.str x], P1 x' := fun x' m => by
    rcases List.mem_append.mp m with m | m
    · exact tkP _ x' m
    · rw [List.mem_singleton.mp m]; exact p1_str
  have po : ∀ x' ∈ W.take k.toNat ++ [o], P1 x' := fun x' m => by
    rcases List.mem_append.mp m with m | m
    · exact tkP _ x' m
    · rw [List.mem_singleton.mp m]; exact od.1
  have a2 := addT_pv (fros_all (tkP k.toNat)) (show fros [PV.str x] = true from rfl) (by rw [List.length_take, List.length_singleton]; unfold big; omega)
  have a2' := addT_pv (fros_all (tkP k.toNat)) (show fros [o] = true by simp [fo]) (by rw [List.length_take, List.length_singleton]; unfold big; omega)
  have a3 := addT_pv (fros_all pw) (fros_all (drP k.toNat)) (by rw [List.length_append, List.length_take, List.length_drop, List.length_singleton]; unfold big; omega)
  have a3' := addT_pv (fros_all po) (fros_all (drP k.toNat)) (by rw [List.length_append, List.length_take, List.length_drop, List.length_singleton]; unfold big; omega)
  have q1 : ∀ x' ∈ W ++ W.take (1 : Int).toNat, P1 x' := fun x' m => by
    rcases List.mem_append.mp m with m | m
    · exact wP _ m
    · exact tkP _ x' m
  have q2 : ∀ x' ∈ W.take k.toNat ++ [PV.str x] ++ W.drop k.toNat, P1 x' := fun x' m => by
    rcases List.mem_append.mp m with m | m
    · exact pw _ m
    · exact drP _ x' m
  have q3 : ∀ x' ∈ W.take k.toNat ++ [o] ++ W.drop k.toNat, P1 x' := fun x' m => by
    rcases List.mem_append.mp m with m | m
    · exact po _ m
    · exact drP _ x' m
  have n1 : (W ++ W.take (1 : Int).toNat).length ≤ 60 := by rw [List.length_append, List.length_take]; omega
  have n2 : (W.take k.toNat ++ [PV.str x] ++ W.drop k.toNat).length ≤ 60 := by rw [List.length_append, List.length_append, List.length_take, List.length_drop, List.length_singleton]; omega
  have n3 : (W.take k.toNat ++ [o] ++ W.drop k.toNat).length ≤ 60 := by rw [List.length_append, List.length_append, List.length_take, List.length_drop, List.length_singleton]; omega
  have a1 : bAdd (.tup W) (.tup (W.take (1 : Int).toNat)) = some (.tup (W ++ W.take (1 : Int).toNat)) := a1
  have f1 := fros_all q1
  have f2 := fros_all q2
  have f3 := fros_all q3
  have zf1 := frzs_of_fros f1
  have zf2 := frzs_of_fros f2
  have zf3 := frzs_of_fros f3
  obtain ⟨F, hF⟩ : ∃ F, F = [.lst false W, .tup (W ++ W.take (1 : Int).toNat), .tup (W.take k.toNat ++ [PV.str x] ++ W.drop k.toNat), .tup (W.take k.toNat ++ [o] ++ W.drop k.toNat), o, .str j, .str x] := ⟨_, rfl⟩
  have fF : fros F = true := by
    rw [hF]
    simp only [fros_cons, fro_lf, fro_tup, fro_str, fW, f1, f2, f3, fo, fros_nil, Bool.and_self]
  obtain ⟨r, mr, ir⟩ := pick_fr fF d40 (by rw [hF]; exact d41)
  have dr : DN r := by
    rw [hF] at mr
    simp only [List.mem_cons, List.not_mem_nil, or_false] at mr
    rcases mr with rfl | rfl | rfl | rfl | rfl | rfl | rfl
    · exact (dw_of (p1_lst wP) rfl).n
    · exact dn_tup q1 n1
    · exact dn_tup q2 n2
    · exact dn_tup q3 n3
    · exact od.n
    · exact (dw_of p1_str rfl).n
    · exact (dw_of p1_str rfl).n
  have adF : bAdd (.lst true [.lst false W, .tup (W ++ W.take (1 : Int).toNat), .tup (W.take k.toNat ++ [PV.str x] ++ W.drop k.toNat), .tup (W.take k.toNat ++ [o] ++ W.drop k.toNat), o]) (.lst true [.str j, .str x]) = some (.lst true F) := by
    have := addL_pv (b := true) (d := true) (xs := [.lst false W, .tup (W ++ W.take (1 : Int).toNat), .tup (W.take k.toNat ++ [PV.str x] ++ W.drop k.toNat), .tup (W.take k.toNat ++ [o] ++ W.drop k.toNat), o]) (ys := [.str j, .str x]) (by simp only [fros_cons, fro_lf, fro_tup, fro_str, fW, f1, f2, f3, fo, fros_nil, Bool.and_self]) rfl (by unfold big; simp)
    rw [this, hF]; rfl
  have zF := frzs_of_fros fF
  clear hF
  have w0 := h.own
  have w1 := h1.own
  have w2 := h2.own
  have w3 := h3.own
  have w4 := h4.own
  have fT : fro (.tup W) = true := by rw [fro_tup]; exact fW
  have c0 : cIn (.int 0) (.tup [.int 0, .int 5]) = some true := rfl
  have c5 : cIn (.int 5) (.tup [.int 0, .int 5]) = some true := rfl
  have i1 : ix (.lst false [.non, .bl true, .int 0, .int 1, .str "", .str "key", .lst false [], .dct false [] [], .tup [], .tup [.str "all"], .str "keep", .str "All", .str "refuse"]) (.int d1) = some o := i1
  refine ⟨r, p4, ?_, dr, h4⟩
  rw [Int.toNat_one] at *
  simp only [f__law_bent, b__law_bent]
  rw [mk_eq rfl]
  generalize W.take k.toNat ++ [PV.str x] ++ W.drop k.toNat = X2 at *
  generalize W.take k.toNat ++ [o] ++ W.drop k.toNat = X3 at *
  generalize W.take k.toNat ++ [PV.str x] = Y2 at *
  generalize W.take k.toNat ++ [o] = Y3 at *
  generalize W ++ W.take 1 = X1 at *
  generalize W.take k.toNat = Wk at *
  generalize W.drop k.toNat = Dk at *
  generalize W.take 1 = W1 at *
  rcases hp with rfl | rfl <;> simp -implicitDefEqProofs [e1, e2, e3, e4, i1, i2, ir, s1, s2, s3, a1, a2, a2', a3, a3', adF, fl, ln, hj, zo, zW, zf1, zf2, zf3, zF, w0, w1, w2, w3, w4, fW, fT, c0, c5, -ix_l, -len_tup]
theorem bent_word {p : PV} {pl : Int} {x : Str} (h : Pot p) (hp : pl = 2 ∨ pl = 3 ∨ pl = 4 ∨ pl = 6) : ∃ v p', f__law_bent [p, .int pl, .str x] = .ok v [p', .int pl, .str x] ∧ P1 v ∧ Pot p' := by
  obtain ⟨d1, p1, e1, d10, d11, h1⟩ := draw_ok (m := 13) h (by decide) (by decide)
  obtain ⟨o, mo, i1⟩ := pick_fr (xs := ODD) rfl d10 d11
  obtain ⟨d2, p2, e2, d20, d21, h2⟩ := draw_ok (m := 12) h1 (by decide) (by decide)
  have od := odd_dw mo
  have zo := frz_of_fro od.1.fr
  have fo := od.1.fr
  have fF : fros [.str "skip", .str "make", .str "drop", .str "first", .str "none", .str "clear", .str "sent", .str " all", o, o, o, o] = true := by simp only [fros_cons, fro_str, fo, fros_nil, Bool.and_self]
  obtain ⟨r, mr, ir⟩ := pick_fr fF d20 d21
  have pr : P1 r := by
    simp only [List.mem_cons, List.not_mem_nil, or_false] at mr
    rcases mr with rfl | rfl | rfl | rfl | rfl | rfl | rfl | rfl | rfl | rfl | rfl | rfl
    all_goals first | exact p1_str | exact od.1
  have rp : bRep (.lst true [o]) (.int 4) = some (.lst true [o, o, o, o]) := by
    show (if (decide ((0 : Int) ≤ 4) && decide ((4 : Int) ≤ 1000000) && fros [o] && decide ([o].length * (4 : Int).toNat ≤ big)) = true then some (PV.lst true (List.replicate (4 : Int).toNat [o]).flatten) else none) = _
    rw [show fros [o] = true by simp only [fros_cons, fo, fros_nil, Bool.and_self]]
    rfl
  have ad : bAdd (.lst true [.str "skip", .str "make", .str "drop", .str "first", .str "none", .str "clear", .str "sent", .str " all"]) (.lst true [o, o, o, o]) = some (.lst true [.str "skip", .str "make", .str "drop", .str "first", .str "none", .str "clear", .str "sent", .str " all", o, o, o, o]) :=
    addL_pv rfl (by simp only [fros_cons, fo, fros_nil, Bool.and_self]) (by unfold big; simp)
  have w0 := h.own
  have w1 := h1.own
  have w2 := h2.own
  have i1 : ix (.lst false [.non, .bl true, .int 0, .int 1, .str "", .str "key", .lst false [], .dct false [] [], .tup [], .tup [.str "all"], .str "keep", .str "All", .str "refuse"]) (.int d1) = some o := i1
  refine ⟨r, p2, ?_, pr, h2⟩
  simp only [f__law_bent, b__law_bent]
  rw [mk_eq rfl]
  have c : cIn (.int pl) (.tup [.int 0, .int 5]) = some false := by rcases hp with rfl | rfl | rfl | rfl <;> rfl
  have q : cEq (.int pl) (.int 1) = some false := by rcases hp with rfl | rfl | rfl | rfl <;> rfl
  simp -implicitDefEqProofs [e1, e2, i1, ir, rp, ad, zo, w0, w1, w2, c, q, -ix_l]
end Law
set_option Elab.async false
set_option linter.all false
set_option maxRecDepth 100000
set_option maxHeartbeats 4000000
/-! k22: what is written bent. -/
namespace Law
open PySem (Str)
open Tr Tr.Ev
theorem bent_write {p : PV} {qs : List (Str × Str)} (h : Pot p) (l : qs.length ≤ 8) : ∃ v p', f__law_bent [p, .int 1, .tup (qs.map wv)] = .ok v [p', .int 1, .tup (qs.map wv)] ∧ DW v ∧ Pot p' := by
  obtain ⟨d1, p1, e1, d10, d11, h1⟩ := draw_ok (m := 13) h (by decide) (by decide)
  obtain ⟨o, mo, i1⟩ := pick_fr (xs := ODD) rfl d10 d11
  obtain ⟨k, p2, e2, k0, k1, h2⟩ := draw_ok (m := (qs.length : Nat) + 1) h1 (by omega) (by omega)
  obtain ⟨d3, p3, e3, d30, d31, h3⟩ := draw_ok (m := 5) h2 (by decide) (by decide)
  obtain ⟨w, mw, i3⟩ := pick_fr (xs := [.str "size", .str "key", .str "Size", .str "", .str "ninechars"]) rfl d30 d31
  obtain ⟨x, rfl⟩ : ∃ x, w = .str x := by
    simp only [List.mem_cons, List.not_mem_nil, or_false] at mw
    rcases mw with rfl | rfl | rfl | rfl | rfl <;> exact ⟨_, rfl⟩
  obtain ⟨d4, p4, e4, d40, d41, h4⟩ := draw_ok (m := 9) h3 (by decide) (by decide)
  obtain ⟨d5, p5, e5, d50, d51, h5⟩ := draw_ok (m := 5) h4 (by decide) (by decide)
  have od := odd_dw mo
  have zo := frz_of_fro od.1.fr
  have fo := od.1.fr
  obtain ⟨B, hB⟩ : ∃ B, B = [.tup [.str x, .str "keep"], .tup [.str x, .str "Clear"], .tup [.str x, o], .tup [o, .str "clear"], .lst false [.str x, .str "keep"], .tup [.str x], o, .tup [.str x, .str "keep", .int 1], .str x] := ⟨_, rfl⟩
  have fB : fros B = true := by rw [hB]; simp only [fros_cons, fro_lf, fro_tup, fro_str, fro_int, fo, fros_nil, Bool.and_self]
  have zB := frzs_of_fros fB
  have adB : bAdd (.lst true [.tup [.str x, .str "keep"], .tup [.str x, .str "Clear"], .tup [.str x, o], .tup [o, .str "clear"], .lst false [.str x, .str "keep"], .tup [.str x], o]) (.lst true [.tup [.str x, .str "keep", .int 1], .str x]) = some (.lst true B) := by
    rw [addL_pv (by simp only [fros_cons, fro_lf, fro_tup, fro_str, fo, fros_nil, Bool.and_self]) rfl (by unfold big; simp), hB]; rfl
  obtain ⟨bd, mb, ib⟩ := pick_fr fB d40 (by rw [hB]; exact d41)
  have po : P1 o := od.1
  have two : ∀ {a b : PV}, P1 a → P1 b → P2 (.tup [a, b]) := fun ha hb => p2_tup fun y m => by
    simp only [List.mem_cons, List.not_mem_nil, or_false] at m
    rcases m with rfl | rfl
    · exact ha
    · exact hb
  have Pb : P2 bd := by
    rw [hB] at mb
    simp only [List.mem_cons, List.not_mem_nil, or_false] at mb
    rcases mb with rfl | rfl | rfl | rfl | rfl | rfl | rfl | rfl | rfl
    · exact two p1_str p1_str
    · exact two p1_str p1_str
    · exact two p1_str po
    · exact two po p1_str
    · exact p2_of ⟨rfl, rfl⟩ rfl
    · exact p2_tup fun y m => by rw [List.mem_singleton.mp m]; exact p1_str
    · exact dw_p2 od
    · refine p2_tup fun y m => ?_
      simp only [List.mem_cons, List.not_mem_nil, or_false] at m
      rcases m with rfl | rfl | rfl
      · exact p1_str
      · exact p1_str
      · exact p1_int
    · exact p2_str
  have fb := Pb.p.fr
  have zb := frz_of_fro fb
  clear hB mb
  have wP : ∀ y ∈ qs.map wv, P2 y := fun y m => by
    obtain ⟨q, _, rfl⟩ := List.mem_map.mp m
    exact two p1_str p1_str
  obtain ⟨W, hW⟩ : ∃ W, W = qs.map wv := ⟨_, rfl⟩
  have lW : W.length = qs.length := by rw [hW, List.length_map]
  have ln := len_encT (enc := wv) (xs := qs)
  have fl := list_encT frWv (xs := qs)
  rw [← hW] at wP ln fl ⊢
  have wP1 : ∀ y ∈ W, P1 y := fun y m => (wP y m).p
  have fW := fros_all wP1
  have zW := frzs_of_fros fW
  have tkP : ∀ n, ∀ y ∈ W.take n, P2 y := fun n y m => wP y (List.mem_of_mem_take m)
  have drP : ∀ n, ∀ y ∈ W.drop n, P2 y := fun n y m => wP y (List.mem_of_mem_drop m)
  have ft : ∀ n, fros (W.take n) = true := fun n => fros_all fun y m => (tkP n y m).p
  have fd : ∀ n, fros (W.drop n) = true := fun n => fros_all fun y m => (drP n y m).p
  have k1n : (0 : Int) ≤ k + 1 := by omega
  have s1 := sT_to fW (i := 1) (by decide)
  have s2 := sT_to fW k0
  have s3 := sT_fr fW k0
  have s4 := sT_fr fW k1n
  have pw : ∀ y ∈ W.take k.toNat ++ [bd], P2 y := fun y m => by
    rcases List.mem_append.mp m with m | m
    · exact tkP _ y m
    · rw [List.mem_singleton.mp m]; exact Pb
  have fpw := fros_all fun y m => (pw y m).p
  have a1 := addT_pv fW (ft (1 : Int).toNat) (by rw [List.length_take]; unfold big; omega)
  have a2 := addT_pv (ft k.toNat) (show fros [bd] = true by simp only [fros_cons, fb, fros_nil, Bool.and_self]) (by rw [List.length_take, List.length_singleton]; unfold big; omega)
  have a3 := addT_pv fpw (fd k.toNat) (by rw [List.length_append, List.length_take, List.length_drop, List.length_singleton]; unfold big; omega)
  have a4 := addT_pv fpw (fd (k + 1).toNat) (by rw [List.length_append, List.length_take, List.length_drop, List.length_singleton]; unfold big; omega)
  have q1 : ∀ y ∈ W ++ W.take (1 : Int).toNat, P2 y := fun y m => by
    rcases List.mem_append.mp m with m | m
    · exact wP _ m
    · exact tkP _ y m
  have q2 : ∀ n, ∀ y ∈ W.take k.toNat ++ [bd] ++ W.drop n, P2 y := fun n y m => by
    rcases List.mem_append.mp m with m | m
    · exact pw _ m
    · exact drP _ y m
  have n1 : (W ++ W.take (1 : Int).toNat).length ≤ 60 := by rw [List.length_append, List.length_take]; omega
  have n2 : ∀ n, (W.take k.toNat ++ [bd] ++ W.drop n).length ≤ 60 := fun n => by rw [List.length_append, List.length_append, List.length_take, List.length_drop, List.length_singleton]; omega
  have f1 := fros_all fun y m => (q1 y m).p
  have f2 := fros_all fun y m => (q2 k.toNat y m).p
  have f3 := fros_all fun y m => (q2 (k + 1).toNat y m).p
  have zf1 := frzs_of_fros f1
  have zf2 := frzs_of_fros f2
  have zf3 := frzs_of_fros f3
  have fF : fros [.lst false W, .tup (W ++ W.take (1 : Int).toNat), .tup (W.take k.toNat ++ [bd] ++ W.drop k.toNat), .tup (W.take k.toNat ++ [bd] ++ W.drop (k + 1).toNat), o] = true := by
    simp only [fros_cons, fro_lf, fro_tup, fro_str, fW, f1, f2, f3, fo, fros_nil, Bool.and_self]
  obtain ⟨r, mr, ir, _⟩ := pick_any (b := true) fF d50 d51
  have dr : DW r := by
    simp only [List.mem_cons, List.not_mem_nil, or_false] at mr
    rcases mr with rfl | rfl | rfl | rfl | rfl
    · exact dw_of (p1_lst wP1) rfl
    · exact dw_tup q1 n1
    · exact dw_tup (q2 _) (n2 _)
    · exact dw_tup (q2 _) (n2 _)
    · exact od
  have w0 := h.own
  have w1 := h1.own
  have w2 := h2.own
  have w3 := h3.own
  have w4 := h4.own
  have w5 := h5.own
  have fT : fro (.tup W) = true := by rw [fro_tup]; exact fW
  have c0 : cIn (.int 1) (.tup [.int 0, .int 5]) = some false := rfl
  have c1 : cEq (.int 1) (.int 1) = some true := rfl
  have i1 : ix (.lst false [.non, .bl true, .int 0, .int 1, .str "", .str "key", .lst false [], .dct false [] [], .tup [], .tup [.str "all"], .str "keep", .str "All", .str "refuse"]) (.int d1) = some o := i1
  refine ⟨r, p5, ?_, dr, h5⟩
  rw [Int.toNat_one] at *
  simp only [f__law_bent, b__law_bent]
  rw [mk_eq rfl]
  generalize W.take k.toNat ++ [bd] ++ W.drop k.toNat = X2 at *
  generalize W.take k.toNat ++ [bd] ++ W.drop (k + 1).toNat = X3 at *
  generalize W.take k.toNat ++ [bd] = Y2 at *
  generalize W ++ W.take 1 = X1 at *
  generalize W.take k.toNat = Wk at *
  generalize W.drop k.toNat = Dk at *
  generalize W.drop (k + 1).toNat = Dk1 at *
  generalize W.take 1 = W1 at *
  simp -implicitDefEqProofs [e1, e2, e3, e4, e5, i1, i3, ib, ir, s1, s2, s3, s4, a1, a2, a3, a4, adB, fl, ln, zo, zb, zB, zW, zf1, zf2, zf3, w0, w1, w2, w3, w4, w5, fW, fT, c0, c1, -ix_l, -len_tup]
end Law
set_option Elab.async false
set_option linter.all false
set_option maxRecDepth 100000
set_option maxHeartbeats 4000000
/-! k22: joinings compared. -/
namespace Law
open PySem (Str)
open Tr Tr.Ev
theorem jeq_jn {a b : Bool} {v u : V7} {r : Bool} (hr : cEq (.tup v.l) (.tup u.l) = some r) : disp [(4, f_Joining___eq__)] [jn a v, jn b u] = .ok (.bl r) [jn a v, jn b u] := by
  refine disp_hd ?_
  have p : ((fldv [(4, 0)] (jn a v)).bind fun u' => (fldv [(4, 0)] (jn b u)).bind fun z => cEq u' z) = some r := hr
  have k : isaK [4] [4] (jn b u) = some true := rfl
  show f_Joining___eq__ [jn a v, jn b u] = _
  generalize jn a v = x at *
  generalize jn b u = y at *
  simp only [f_Joining___eq__, b_Joining___eq__]
  rw [mk_eq rfl]
  cases r <;> simp -implicitDefEqProofs [eAnd, k, p]
theorem jeq_no {a : Bool} {v : V7} {w : PV} (hw : isaK [4] [4] w = some false) : disp [(4, f_Joining___eq__)] [jn a v, w] = .ok (.bl false) [jn a v, w] := by
  refine disp_hd ?_
  show f_Joining___eq__ [jn a v, w] = _
  generalize jn a v = x at *
  simp only [f_Joining___eq__, b_Joining___eq__]
  rw [mk_eq rfl]
  simp -implicitDefEqProofs [eAnd, hw]
theorem parts_ok {a : Bool} {v : V7} (h : V7Ok v) : f_Joining_parts [jn a v] = .ok (.tup v.l) [jn a v] := by
  have p : (fldv [(4, 0)] (jn a v)).bind onlyFro = some (.tup v.l) := by
    show onlyFro (.tup v.l) = _
    refine onlyFro_t ?_
    have := fro_frz (.tup v.l)
    rwa [frz_tup, h.frzs] at this
  generalize jn a v = x at *
  simp only [f_Joining_parts, b_Joining_parts]
  rw [mk_eq rfl]
  simp -implicitDefEqProofs [p]
/-- the data of a joining: no list too long, not too deep -/
structure V7D (v : V7) : Prop where
  a : okD 3 v.a = true
  b : okD 3 v.b = true
  c : okD 3 v.c = true
  d : okD 3 v.d = true
  e : okD 3 v.e = true
  f : okD 3 v.f = true
  g : okD 3 v.g = true
theorem V7D.all {v : V7} (h : V7D v) : v.l.all (okD 3) = true := by
  show (okD 3 v.a && (okD 3 v.b && (okD 3 v.c && (okD 3 v.d && (okD 3 v.e && (okD 3 v.f && (okD 3 v.g && true))))))) = true
  rw [h.a, h.b, h.c, h.d, h.e, h.f, h.g]; rfl
theorem V7D.tup {v : V7} (h : V7D v) : okD 4 (.tup v.l) = true := by
  show (decide (v.l.length ≤ 1000) && v.l.all (okD 3)) = true
  rw [h.all]; rfl
theorem V7D.dat {v : V7} (h : V7D v) : dat deep (.tup v.l) = true := dat_mono (n := 4) (by unfold deep; omega) (okD_dat h.tup)
theorem V7D.eq {v : V7} (h : V7D v) : cEq (.tup v.l) (.tup v.l) = some true := by
  unfold cEq
  rw [h.dat, eqv_rfl _ _ h.dat]; rfl
theorem ne7 {v u : V7} (hv : V7D v) (hu : V7D u) (h : eqv (.tup v.l) (.tup u.l) = false) : cEq (.tup v.l) (.tup u.l) = some false := by
  unfold cEq
  rw [hv.dat, hu.dat, h]; rfl
/-- a part that may be told from another -/
structure Enc (α : Type) [DecidableEq α] (enc : α → PV) : Prop where
  eq : ∀ x y, eqv (enc x) (enc y) = decide (x = y)
  dat : ∀ x, dat deep (enc x) = true
theorem encS : Enc Str PV.str := ⟨eqv_str, fun _ => rfl⟩
theorem encN : Enc (List Str) (fun ws => PV.tup (ws.map .str)) := ⟨fun x y => eqvs_map PV.str eqv_str x y, fun ws => by
  show (ws.map PV.str).all (Tr.dat 19) = true
  rw [List.all_map]
  exact List.all_eq_true.mpr fun _ _ => rfl⟩
theorem eqv_wv (x y : Str × Str) : eqv (wv x) (wv y) = decide (x = y) := by
  show (eqv (.str x.1) (.str y.1) && (eqv (.str x.2) (.str y.2) && true)) = _
  rw [eqv_str, eqv_str, Bool.and_true]
  by_cases a : x.1 = y.1
  · by_cases b : x.2 = y.2
    · have : x = y := Prod.ext a b
      simp [this]
    · have : ¬ x = y := fun e => b (by rw [e])
      simp [b, this]
  · have : ¬ x = y := fun e => a (by rw [e])
    simp [a, this]
theorem encW : Enc (List (Str × Str)) (fun qs => PV.tup (qs.map wv)) := ⟨fun x y => eqvs_map wv eqv_wv x y, fun qs => by
  show (qs.map wv).all (Tr.dat 19) = true
  rw [List.all_map]
  exact List.all_eq_true.mpr fun _ _ => rfl⟩
theorem Enc.ceq {α : Type} [DecidableEq α] {enc : α → PV} (h : Enc α enc) (x y : α) : cEq (enc x) (enc y) = some (decide (x = y)) := by
  unfold cEq
  rw [h.dat, h.dat, h.eq]; rfl
theorem Enc.other {α : Type} [DecidableEq α] {enc : α → PV} (h : Enc α enc) {x f s : α} (n : f ≠ s) : eqv (enc x) (enc (if x = f then s else f)) = false ∧ eqv (enc (if x = f then s else f)) (enc x) = false := by
  rw [h.eq, h.eq]
  by_cases e : x = f
  · rw [if_pos e, e]
    exact ⟨by simp [n], by simp [Ne.symm n]⟩
  · rw [if_neg e]
    exact ⟨by simp [e], by simp [Ne.symm e]⟩
/-- all is as it is to be -/
structure V7G (v : V7) : Prop where
  a : itemsB true v.a = true
  a1 : isE v.a = false
  b : writeB v.b = true
  c : wordB MANYS v.c = true
  d : wordB NEWS v.d = true
  e : wordB GONES v.e = true
  f : itemsB true v.f = true
  g : wordB SCOPES v.g = true
theorem V7G.ok {v : V7} (h : V7G v) : wrongV v = .non := by
  unfold wrongV
  rw [h.a, h.a1, h.b, h.c, h.d, h.e, h.f, h.g]; rfl
abbrev ER (L : PV) (v : V7) (o3 o4 o5 o6 o7 o8 o9 : Option PV) : Env := [some L, some (jn true v), some (jn true v), o3, o4, o5, o6, o7, o8, o9, none, none, none]
abbrev MENUS : List PV := [.tup [.tup [.str "rather"], .tup [.str "other"]], .tup [.tup [], .tup [.tup [.str "rather", .str "keep"]]], .tup [.str "all", .str "none"], .tup [.str "skip", .str "make"], .tup [.str "keep", .str "drop"], .tup [.tup [], .tup [.str "rather"]], .tup [.str "sent", .str "all"]]
def ERB : SF := (sSeq (sSetT (bT [(bN 6), (bN 7)]) (eP2 ix (.nm 4) (.nm 5)))
    (sSeq (sSet 8 (eIf (tPV2 cEq (.ev (eP2 ix (.nm 0) (.nm 5))) (.nm 6)) (eNm 7) (eNm 6)))
    (sSeq (sSet 9 (eP2 bAdd (.ev (eP2 bAdd (.ev (eSl (.nm 0) none (some (eNm 5)))) (.ev (eTup (aCons (eNm 8) aNil))))) (.ev (eSl (.nm 0) (some (eP2 bAdd (.nm 5) (.ev (eC (.int 1))))) none))))
    (sIf (tNot (tE (eCall (f__law_same 6) [(.ev (eLst (aCons (eT (tEqI [4] [(4, f_Joining___eq__)] (.nm 1) (.ev (eCall f__law_plain [(.nm 9)] [])))) (aCons (eT (tEqI [4] [(4, f_Joining___eq__)] (.ev (eCall f__law_plain [(.nm 9)] [])) (.nm 1))) aNil)))), (.ev (eLst (aCons (eC (.bl false)) (aCons (eC (.bl false)) aNil))))] []))) (sRet (eC (.bl false))) sNx))))
theorem same_ff : f__law_same 6 [.lst true [.bl false, .bl false], .lst true [.bl false, .bl false]] = .ok (.bl true) [.lst true [.bl false, .bl false], .lst true [.bl false, .bl false]] := same_refl 5 (by decide) (.li rfl) rfl
theorem er_turn {v u : V7} {k : Nat} {x f s : PV} {b : Bool} {o3 q6 q7 q8 q9 : Option PV} (hv : V7Ok v) (hu : V7Ok u) (du : V7D u) (dv : V7D v) (gu : V7G u) (hk : k < 7) (hx : v.l[k]? = some x) (hM : MENUS[k]? = some (.tup [f, s])) (he : cEq x f = some b)
    (fx : fro x = true) (ff : fro f = true) (fs : fro s = true) (hl : u.l = v.l.take k ++ [if b = true then s else f] ++ v.l.drop (k + 1)) (n1 : eqv (.tup v.l) (.tup u.l) = false) (n2 : eqv (.tup u.l) (.tup v.l) = false) :
    ∃ o6 o7 o8 o9, ERB (ER (.tup v.l) v o3 (some (.lst true MENUS)) (some (.int (k : Nat))) q6 q7 q8 q9) = .nx (ER (.tup v.l) v o3 (some (.lst true MENUS)) (some (.int (k : Nat))) o6 o7 o8 o9) := by
  have fl : fros v.l = true := by
    have := fros_frzs v.l
    rwa [hv.frzs] at this
  have i1 : ix (.lst true MENUS) (.int (k : Nat)) = some (.tup [f, s]) := by
    show (atI MENUS (k : Nat)).bind onlyFro = _
    unfold atI
    rw [ixN_nn (by omega) (by show ((k : Nat) : Int) < 7; omega), Option.bind_some, Int.toNat_natCast, hM]
    exact onlyFro_t (by simp only [fro_tup, fros_cons, ff, fs, fros_nil, Bool.and_self])
  have i2 : ix (.tup v.l) (.int (k : Nat)) = some x := by
    show (atI v.l (k : Nat)).bind onlyFro = _
    unfold atI
    rw [ixN_nn (by omega) (by show ((k : Nat) : Int) < 7; omega), Option.bind_some, Int.toNat_natCast, hx]
    exact onlyFro_t fx
  have s1 := sT_to fl (i := (k : Nat)) (by omega)
  have s2 := sT_fr fl (i := ((k : Nat) : Int) + 1) (by omega)
  rw [Int.toNat_natCast] at s1
  have z : (((k : Nat) : Int) + 1).toNat = k + 1 := by omega
  rw [z] at s2
  have vl : v.l.length = 7 := rfl
  obtain ⟨ot, hot⟩ : ∃ ot, ot = (if b = true then s else f) := ⟨_, rfl⟩
  have fo : fro ot = true := by rw [hot]; cases b <;> assumption
  have zo := frz_of_fro fo
  rw [← hot] at hl
  have ft : fros (v.l.take k) = true := by rw [fros_eq] at fl ⊢; exact List.all_eq_true.mpr fun y m => List.all_eq_true.mp fl y (List.mem_of_mem_take m)
  have fd : fros (v.l.drop (k + 1)) = true := by rw [fros_eq] at fl ⊢; exact List.all_eq_true.mpr fun y m => List.all_eq_true.mp fl y (List.mem_of_mem_drop m)
  have fto : fros (v.l.take k ++ [ot]) = true := by
    rw [fros_eq, List.all_append, ← fros_eq, ft]; simp [fo]
  have a1 := addT_pv ft (show fros [ot] = true by simp only [fros_cons, fo, fros_nil, Bool.and_self]) (by rw [List.length_take, vl, List.length_singleton]; unfold big; omega)
  have a2 := addT_pv fto fd (by rw [List.length_append, List.length_take, List.length_drop, vl, List.length_singleton]; unfold big; omega)
  rw [← hl] at a2
  have pl := plain_yes (t := true) hu gu.ok
  have pl : f__law_plain [.tup u.l] = .ok (jn true u) [.tup u.l] := pl
  have d1 := jeq_jn (a := true) (b := true) (ne7 dv du n1)
  have d2 := jeq_jn (a := true) (b := true) (ne7 du dv n2)
  have fu : fros u.l = true := by
    have := fros_frzs u.l
    rwa [hu.frzs] at this
  have zs := frz_of_fro fs
  have zf := frz_of_fro ff
  have oj : ∀ w : V7, othOk [4] (jn true w) = true := fun _ => rfl
  have fj : ∀ w : V7, fro (jn true w) = false := fun _ => rfl
  have t2a := fun ρ => te2_ok (tg := [4]) (mt := [(4, f_Joining___eq__)]) (a := .nm 1) (b := .ev (eCall f__law_plain [(.nm 9)] [])) (ρ := ρ) (oj u) d1
  have t2b := fun ρ => te2_ok (tg := [4]) (mt := [(4, f_Joining___eq__)]) (a := .ev (eCall f__law_plain [(.nm 9)] [])) (b := .nm 1) (ρ := ρ) (oj v) d2
  have fj1 := fj v
  have fj2 := fj u
  have sm := same_ff
  refine ⟨some f, some s, some ot, some (.tup u.l), ?_⟩
  clear hM hx n1 n2 d1 d2 oj fj
  unfold ERB ER
  generalize jn true v = J at *
  generalize jn true u = K at *
  generalize v.l.take k ++ [ot] = T1 at *
  generalize v.l.take k = T0 at *
  generalize v.l.drop (k + 1) = D1 at *
  generalize v.l = L at *
  generalize u.l = U at *
  generalize PV.lst true MENUS = M at *
  cases b with
  | false =>
    rw [if_neg (by decide)] at hot
    subst hot
    simp -implicitDefEqProofs [i1, i2, he, zf, s1, s2, a1, a2, pl, fl, fu, t2a, t2b, fj1, fj2, sm, -ix_t]
  | true =>
    rw [if_pos rfl] at hot
    subst hot
    simp -implicitDefEqProofs [i1, i2, he, zs, s1, s2, a1, a2, pl, fl, fu, t2a, t2b, fj1, fj2, sm, -ix_t]
end Law
set_option Elab.async false
set_option linter.all false
set_option maxRecDepth 100000
set_option maxHeartbeats 4000000
/-! k22: _law_equal_right. -/
namespace Law
open PySem (Str)
open Tr Tr.Ev
def vP (P : Prt) : V7 := ⟨.tup (P.by_.map .str), .tup (P.to.map wv), .str P.which, .str P.unmet, .str P.left, .tup (P.fresh.map .str), .str P.where_⟩
theorem ptv_eq {P : Prt} : ptv P = .tup (vP P).l := rfl
structure PG (P : Prt) : Prop where
  b : ∀ x ∈ P.by_, Wrd x
  bn : P.by_.Nodup
  b1 : P.by_ ≠ []
  t : ∀ q ∈ P.to, Wrd q.1 ∧ q.1 ≠ KY ∧ q.2 ∈ BLS
  tn : (P.to.map (·.1)).Nodup
  w : P.which ∈ MANYS
  u : P.unmet ∈ NEWS
  l : P.left ∈ GONES
  f : ∀ x ∈ P.fresh, Wrd x
  fn : P.fresh.Nodup
  s : P.where_ ∈ SCOPES
  lb : P.by_.length ≤ 50
  lt : P.to.length ≤ 50
  lf : P.fresh.length ≤ 50
theorem okW_wrd {x : Str} (h : Wrd x) : okW x = true := by
  unfold okW
  rw [decide_eq_true h.l1, decide_eq_true h.l8, List.all_eq_true.mpr fun c m => decide_eq_true (h.abc c m)]; rfl
theorem wrd_okW {x : Str} (h : okW x = true) : Wrd x := by
  unfold okW at h
  rw [Bool.and_eq_true, Bool.and_eq_true] at h
  exact ⟨of_decide_eq_true h.1, of_decide_eq_true h.2.1, fun c m => of_decide_eq_true (List.all_eq_true.mp h.2.2 c m)⟩
theorem itemsB_ok {k : Bool} {ws : List Str} (h : ∀ x ∈ ws, Wrd x ∧ (k = true ∨ x ≠ KY)) (nd : ws.Nodup) : itemsB k (.tup (ws.map .str)) = true := by
  show (((ws.map PV.str).all fun x => itemB x && (k || !decide (sv x = KY))) && decide ((ws.map PV.str).map sv).Nodup) = true
  rw [List.all_map, map_sv, decide_eq_true nd, Bool.and_true]
  refine List.all_eq_true.mpr fun x m => ?_
  show (okW x && (k || !decide (x = KY))) = true
  rw [okW_wrd (h x m).1]
  rcases (h x m).2 with rfl | n
  · rfl
  · rw [decide_eq_false n]; cases k <;> rfl
theorem writeB_ok {qs : List (Str × Str)} (h : ∀ q ∈ qs, Wrd q.1 ∧ q.1 ≠ KY ∧ q.2 ∈ BLS) (nd : (qs.map (·.1)).Nodup) : writeB (.tup (qs.map wv)) = true := by
  show ((qs.map wv).all pairT && ((qs.map wv).all (fun x => wordB BLS (p1 x)) && itemsB false (.tup ((qs.map wv).map p0)))) = true
  rw [List.all_map, List.all_map, List.map_map]
  have e : (qs.map (p0 ∘ wv)) = (qs.map (·.1)).map .str := by rw [List.map_map]; rfl
  rw [e, itemsB_ok (fun x m => by
    obtain ⟨q, mq, rfl⟩ := List.mem_map.mp m
    exact ⟨(h q mq).1, .inr (h q mq).2.1⟩) nd]
  rw [List.all_eq_true.mpr fun q _ => (rfl : (pairT ∘ wv) q = true)]
  rw [List.all_eq_true.mpr fun q m => show ((fun x => wordB BLS (p1 x)) ∘ wv) q = true from decide_eq_true (h q m).2.2]
  rfl
theorem okD_strs {n : Nat} {ws : List Str} (l : ws.length ≤ 1000) : okD (n + 1) (.tup (ws.map .str)) = true := by
  show (decide ((ws.map PV.str).length ≤ 1000) && (ws.map PV.str).all (okD n)) = true
  rw [List.length_map, decide_eq_true l, List.all_map]
  exact List.all_eq_true.mpr fun x _ => by cases n <;> rfl
theorem okD_wvs {n : Nat} {qs : List (Str × Str)} (l : qs.length ≤ 1000) : okD (n + 2) (.tup (qs.map wv)) = true := by
  show (decide ((qs.map wv).length ≤ 1000) && (qs.map wv).all (okD (n + 1))) = true
  rw [List.length_map, decide_eq_true l, List.all_map]
  exact List.all_eq_true.mpr fun q _ => by
    show (decide ([PV.str q.1, .str q.2].length ≤ 1000) && [PV.str q.1, .str q.2].all (okD n)) = true
    cases n <;> rfl
theorem PG.g {P : Prt} (h : PG P) : V7G (vP P) := by
  refine ⟨itemsB_ok (fun x m => ⟨h.b x m, .inl rfl⟩) h.bn, ?_, writeB_ok h.t h.tn, decide_eq_true h.w, decide_eq_true h.u, decide_eq_true h.l, itemsB_ok (fun x m => ⟨h.f x m, .inl rfl⟩) h.fn, decide_eq_true h.s⟩
  show isE (.tup (P.by_.map .str)) = false
  cases e : P.by_ with
  | nil => exact absurd e h.b1
  | cons x xs => rfl
theorem PG.d {P : Prt} (h : PG P) : V7D (vP P) := ⟨okD_strs (by have := h.lb; omega), okD_wvs (by have := h.lt; omega), rfl, rfl, rfl, okD_strs (by have := h.lf; omega), rfl⟩
theorem dnP {ws : List Str} (l : ws.length ≤ 50) : DN (.tup (ws.map .str)) := dn_tup (fun x m => by
  obtain ⟨y, _, rfl⟩ := List.mem_map.mp m
  exact p1_str) (by rw [List.length_map]; omega)
theorem dwP {qs : List (Str × Str)} (l : qs.length ≤ 50) : DW (.tup (qs.map wv)) := dw_tup (fun x m => by
  obtain ⟨y, _, rfl⟩ := List.mem_map.mp m
  exact p2_tup fun z m => by
    simp only [List.mem_cons, List.not_mem_nil, or_false] at m
    rcases m with rfl | rfl <;> exact p1_str) (by rw [List.length_map]; omega)
theorem PG.ok {P : Prt} (h : PG P) : V7Ok (vP P) := ⟨(dnP h.lb).1, (dwP h.lt).1, p1_str, p1_str, p1_str, (dnP h.lf).1, p1_str, (dnP h.lb).2, (dwP h.lt).2, (dnP h.lf).2⟩
theorem enc_if {α : Type} [DecidableEq α] (enc : α → PV) (x f s : α) : enc (if x = f then s else f) = if decide (x = f) = true then enc s else enc f := by
  by_cases e : x = f <;> simp [e]
theorem mem_if {α : Type} [DecidableEq α] {p : α → Prop} {x f s : α} (h1 : p s) (h2 : p f) : p (if x = f then s else f) := by
  by_cases e : x = f
  · rw [if_pos e]; exact h1
  · rw [if_neg e]; exact h2
theorem w_rather : Wrd "rather" := wrd_okW (by decide +kernel)
theorem w_other : Wrd "other" := wrd_okW (by decide +kernel)
theorem eqvs_set1 : ∀ {l : List PV} {k : Nat} {x y : PV}, l[k]? = some x → eqv x y = false → eqvs l (l.take k ++ [y] ++ l.drop (k + 1)) = false
  | [], k, x, y, h, _ => by simp at h
  | a :: l, 0, x, y, h, e => by
    have : a = x := by simpa using h
    subst this
    show (eqv a y && eqvs l l) = false
    rw [e]; rfl
  | a :: l, k + 1, x, y, h, e => by
    have := eqvs_set1 (l := l) (k := k) (x := x) (y := y) (by simpa using h) e
    show (eqv a a && eqvs l (l.take k ++ [y] ++ l.drop (k + 1))) = false
    rw [this, Bool.and_false]
theorem eqvs_set2 : ∀ {l : List PV} {k : Nat} {x y : PV}, l[k]? = some x → eqv y x = false → eqvs (l.take k ++ [y] ++ l.drop (k + 1)) l = false
  | [], k, x, y, h, _ => by simp at h
  | a :: l, 0, x, y, h, e => by
    have : a = x := by simpa using h
    subst this
    show (eqv y a && eqvs l l) = false
    rw [e]; rfl
  | a :: l, k + 1, x, y, h, e => by
    have := eqvs_set2 (l := l) (k := k) (x := x) (y := y) (by simpa using h) e
    show (eqv a a && eqvs (l.take k ++ [y] ++ l.drop (k + 1)) l) = false
    rw [this, Bool.and_false]
theorem er_k {α : Type} [DecidableEq α] {enc : α → PV} (E : Enc α enc) (fr : ∀ x, fro (enc x) = true) {P P' : Prt} (h : PG P) (h' : PG P') {k : Nat} (hk : k < 7) {x f s : α} (hne : f ≠ s) (hx : (vP P).l[k]? = some (enc x)) (hM : MENUS[k]? = some (.tup [enc f, enc s]))
    (hl : (vP P').l = (vP P).l.take k ++ [enc (if x = f then s else f)] ++ (vP P).l.drop (k + 1)) {o3 q6 q7 q8 q9 : Option PV} : ∃ o6 o7 o8 o9, ERB (ER (.tup (vP P).l) (vP P) o3 (some (.lst true MENUS)) (some (.int (k : Nat))) q6 q7 q8 q9) = .nx (ER (.tup (vP P).l) (vP P) o3 (some (.lst true MENUS)) (some (.int (k : Nat))) o6 o7 o8 o9) := by
  obtain ⟨n1, n2⟩ := E.other (x := x) hne
  refine er_turn (o3 := o3) (q6 := q6) (q7 := q7) (q8 := q8) (q9 := q9) (u := vP P') h.ok h'.ok h'.d h.d h'.g hk hx hM (E.ceq x f) (fr x) (fr f) (fr s) (by rw [hl, enc_if enc]) ?_ ?_
  · show eqvs (vP P).l (vP P').l = false
    rw [hl]; exact eqvs_set1 hx n1
  · show eqvs (vP P').l (vP P).l = false
    rw [hl]; exact eqvs_set2 hx n2
abbrev encNf : List Str → PV := fun ws => PV.tup (ws.map .str)
abbrev encWf : List (Str × Str) → PV := fun qs => PV.tup (qs.map wv)
theorem er_turns {P : Prt} (h : PG P) {o3 q6 q7 q8 q9 : Option PV} : ∀ {k : Nat}, k < 7 → ∃ o6 o7 o8 o9, ERB (ER (.tup (vP P).l) (vP P) o3 (some (.lst true MENUS)) (some (.int (k : Nat))) q6 q7 q8 q9) = .nx (ER (.tup (vP P).l) (vP P) o3 (some (.lst true MENUS)) (some (.int (k : Nat))) o6 o7 o8 o9)
  | 0, hk => er_k (P' := { P with by_ := if P.by_ = (["rather"] : List Str) then ["other"] else ["rather"] }) (enc := encNf) encN (fro_tupE frStr) h
      ⟨mem_if (x := P.by_) (f := ["rather"]) (s := ["other"]) (p := fun l : List Str => ∀ x ∈ l, Wrd x) (fun x m => by rw [List.mem_singleton.mp m]; exact w_other) (fun x m => by rw [List.mem_singleton.mp m]; exact w_rather),
        mem_if (x := P.by_) (f := ["rather"]) (s := ["other"]) (p := List.Nodup) (by simp) (by simp), mem_if (x := P.by_) (f := ["rather"]) (s := ["other"]) (p := fun l : List Str => l ≠ []) (by simp) (by simp), h.t, h.tn, h.w, h.u, h.l, h.f, h.fn, h.s, mem_if (x := P.by_) (f := ["rather"]) (s := ["other"]) (p := fun l : List Str => l.length ≤ 50) (by decide) (by decide), h.lt, h.lf⟩ hk (x := P.by_) (f := ["rather"]) (s := ["other"]) (by decide +kernel) rfl rfl rfl
  | 1, hk => er_k (P' := { P with to := if P.to = [] then [("rather", "keep")] else [] }) (enc := encWf) encW (fro_tupE frWv) h
      ⟨h.b, h.bn, h.b1, mem_if (x := P.to) (f := []) (s := [("rather", "keep")]) (p := fun l : List (Str × Str) => ∀ q ∈ l, Wrd q.1 ∧ q.1 ≠ KY ∧ q.2 ∈ BLS) (fun x m => by rw [List.mem_singleton.mp m]; exact ⟨w_rather, by decide +kernel, by decide +kernel⟩) (fun x m => by cases m),
        mem_if (x := P.to) (f := []) (s := [("rather", "keep")]) (p := fun l : List (Str × Str) => (l.map (·.1)).Nodup) (by simp) (by simp), h.w, h.u, h.l, h.f, h.fn, h.s, h.lb, mem_if (x := P.to) (f := []) (s := [("rather", "keep")]) (p := fun l : List (Str × Str) => l.length ≤ 50) (by decide) (by decide), h.lf⟩ hk (x := P.to) (f := []) (s := [("rather", "keep")]) (by decide +kernel) rfl rfl rfl
  | 2, hk => er_k (P' := { P with which := if P.which = "all" then "none" else "all" }) (enc := PV.str) encS frStr h
      ⟨h.b, h.bn, h.b1, h.t, h.tn, mem_if (x := P.which) (f := "all") (s := "none") (p := fun x : Str => x ∈ MANYS) (by decide +kernel) (by decide +kernel), h.u, h.l, h.f, h.fn, h.s, h.lb, h.lt, h.lf⟩ hk (x := P.which) (f := "all") (s := "none") (by decide +kernel) rfl rfl rfl
  | 3, hk => er_k (P' := { P with unmet := if P.unmet = "skip" then "make" else "skip" }) (enc := PV.str) encS frStr h
      ⟨h.b, h.bn, h.b1, h.t, h.tn, h.w, mem_if (x := P.unmet) (f := "skip") (s := "make") (p := fun x : Str => x ∈ NEWS) (by decide +kernel) (by decide +kernel), h.l, h.f, h.fn, h.s, h.lb, h.lt, h.lf⟩ hk (x := P.unmet) (f := "skip") (s := "make") (by decide +kernel) rfl rfl rfl
  | 4, hk => er_k (P' := { P with left := if P.left = "keep" then "drop" else "keep" }) (enc := PV.str) encS frStr h
      ⟨h.b, h.bn, h.b1, h.t, h.tn, h.w, h.u, mem_if (x := P.left) (f := "keep") (s := "drop") (p := fun x : Str => x ∈ GONES) (by decide +kernel) (by decide +kernel), h.f, h.fn, h.s, h.lb, h.lt, h.lf⟩ hk (x := P.left) (f := "keep") (s := "drop") (by decide +kernel) rfl rfl rfl
  | 5, hk => er_k (P' := { P with fresh := if P.fresh = [] then ["rather"] else [] }) (enc := encNf) encN (fro_tupE frStr) h
      ⟨h.b, h.bn, h.b1, h.t, h.tn, h.w, h.u, h.l, mem_if (x := P.fresh) (f := []) (s := ["rather"]) (p := fun l : List Str => ∀ x ∈ l, Wrd x) (fun x m => by rw [List.mem_singleton.mp m]; exact w_rather) (fun x m => by cases m),
        mem_if (x := P.fresh) (f := []) (s := ["rather"]) (p := List.Nodup) (by simp) (by simp), h.s, h.lb, h.lt, mem_if (x := P.fresh) (f := []) (s := ["rather"]) (p := fun l : List Str => l.length ≤ 50) (by decide) (by decide)⟩ hk (x := P.fresh) (f := []) (s := ["rather"]) (by decide +kernel) rfl rfl rfl
  | 6, hk => er_k (P' := { P with where_ := if P.where_ = "sent" then "all" else "sent" }) (enc := PV.str) encS frStr h
      ⟨h.b, h.bn, h.b1, h.t, h.tn, h.w, h.u, h.l, h.f, h.fn, mem_if (x := P.where_) (f := "sent") (s := "all") (p := fun x : Str => x ∈ SCOPES) (by decide +kernel) (by decide +kernel), h.lb, h.lt, h.lf⟩ hk (x := P.where_) (f := "sent") (s := "all") (by decide +kernel) rfl rfl rfl
  | k + 7, hk => absurd hk (by omega)
theorem same_tfft : f__law_same 6 [.lst true [.bl true, .bl false, .bl false, .bl true], .lst true [.bl true, .bl false, .bl false, .bl true]] = .ok (.bl true) [.lst true [.bl true, .bl false, .bl false, .bl true], .lst true [.bl true, .bl false, .bl false, .bl true]] := same_refl 5 (by decide) (.li rfl) rfl
theorem PG.fros {P : Prt} (h : PG P) : fros (vP P).l = true := by
  have := fros_frzs (vP P).l
  rwa [h.ok.frzs] at this
theorem er_loop {P : Prt} (h : PG P) {o3 : Option PV} : ∃ o5 o6 o7 o8 o9, sFor (iRange1 (eC (.int 7))) (bN 5) ERB (ER (.tup (vP P).l) (vP P) o3 (some (.lst true MENUS)) none none none none none) = .nx (ER (.tup (vP P).l) (vP P) o3 (some (.lst true MENUS)) o5 o6 o7 o8 o9) := by
  have hr := range1_run (f := eC (.int 7)) (ρ := ER (.tup (vP P).l) (vP P) o3 (some (.lst true MENUS)) none none none none none) (ρ1 := ER (.tup (vP P).l) (vP P) o3 (some (.lst true MENUS)) none none none none none) (n := 7) rfl (by decide) (by decide)
  obtain ⟨ρ', e, o5, o6, o7, o8, o9, rfl⟩ := loop_run (b := bN 5) (s := ERB) (xs := (List.range (7 : Int).toNat).map fun i => PV.int (i : Nat)) (ρ := ER (.tup (vP P).l) (vP P) o3 (some (.lst true MENUS)) none none none none none)
    (fun _ ρ => ∃ o5 o6 o7 o8 o9, ρ = ER (.tup (vP P).l) (vP P) o3 (some (.lst true MENUS)) o5 o6 o7 o8 o9) ⟨_, _, _, _, _, rfl⟩ fun i x ρ hx hp => by
      obtain ⟨o5, o6, o7, o8, o9, rfl⟩ := hp
      obtain ⟨hi, rfl⟩ := range_get hx
      refine ⟨ER (.tup (vP P).l) (vP P) o3 (some (.lst true MENUS)) (some (.int (i : Nat))) o6 o7 o8 o9, rfl, .inl ?_⟩
      obtain ⟨a, b, c, d, e⟩ := er_turns h (o3 := o3) (q6 := o6) (q7 := o7) (q8 := o8) (q9 := o9) (k := i) hi
      exact ⟨_, e, _, _, _, _, _, rfl⟩
  exact ⟨o5, o6, o7, o8, o9, sFor_run hr e⟩
def Pd1 (P : Prt) : Prt := { P with which := "refuse", unmet := "refuse", left := "keep", fresh := [], where_ := "sent" }
def Pd2 (P : Prt) : Prt := { P with which := "refuse", unmet := "make", left := "keep", fresh := [], where_ := "all" }
theorem PG.d1 {P : Prt} (h : PG P) : PG (Pd1 P) := ⟨h.b, h.bn, h.b1, h.t, h.tn, show ("refuse" : Str) ∈ MANYS by decide +kernel, show ("refuse" : Str) ∈ NEWS by decide +kernel, show ("keep" : Str) ∈ GONES by decide +kernel, (fun x m => absurd m List.not_mem_nil), List.nodup_nil, show ("sent" : Str) ∈ SCOPES by decide +kernel, h.lb, h.lt, Nat.zero_le _⟩
theorem PG.d2 {P : Prt} (h : PG P) : PG (Pd2 P) := ⟨h.b, h.bn, h.b1, h.t, h.tn, show ("refuse" : Str) ∈ MANYS by decide +kernel, show ("make" : Str) ∈ NEWS by decide +kernel, show ("keep" : Str) ∈ GONES by decide +kernel, (fun x m => absurd m List.not_mem_nil), List.nodup_nil, show ("all" : Str) ∈ SCOPES by decide +kernel, h.lb, h.lt, Nat.zero_le _⟩
theorem equal_ok {P : Prt} (h : PG P) : f__law_equal_right [ptv P] = .ok (.bl true) [ptv P] := by
  rw [ptv_eq]
  have ok := h.ok
  have pl := plain_yes (t := true) ok h.g.ok
  have nm := named_yes (t := true) ok h.g.ok
  have pl : f__law_plain [.tup (vP P).l] = .ok (jn true (vP P)) [.tup (vP P).l] := pl
  have nm : f__law_by_name [.tup (vP P).l] = .ok (jn true (vP P)) [.tup (vP P).l] := nm
  have fl := h.fros
  obtain ⟨o5, o6, o7, o8, o9, lp⟩ := er_loop h (o3 := some (.lst true [.bl true, .bl false, .bl false, .bl true]))
  unfold ERB at lp
  have d1 := jeq_jn (a := true) (b := true) h.d.eq
  have d2 := jeq_no (a := true) (v := vP P) (w := .tup (vP P).l) rfl
  have d3 := jeq_no (a := true) (v := vP P) (w := .non) rfl
  have oj : othOk [4] (jn true (vP P)) = true := rfl
  have fj : fro (jn true (vP P)) = false := rfl
  have t1 := fun ρ => te2_ok (tg := [4]) (mt := [(4, f_Joining___eq__)]) (a := .nm 1) (b := .nm 2) (ρ := ρ) oj d1
  have t2 := fun ρ => te2_ok (tg := [4]) (mt := [(4, f_Joining___eq__)]) (a := .nm 1) (b := .nm 0) (ρ := ρ) (w := .tup (vP P).l) rfl d2
  have t3 := fun ρ => te2_ok (tg := [4]) (mt := [(4, f_Joining___eq__)]) (a := .nm 1) (b := .ev (eC .non)) (ρ := ρ) (w := .non) rfl d3
  have pa := parts_ok (a := true) ok
  have ce := h.d.eq
  have sm := same_tfft
  have rc : recv [(4, f_Joining_parts)] (some (jn true (vP P))) = some f_Joining_parts := rfl
  have g1 : gP [0, 1, 2, 3, 4] [PV.str "refuse", .str "refuse", .str "keep", .tup [], .str "sent"] = [.str "refuse", .str "refuse", .str "keep", .tup [], .str "sent"] := rfl
  have g2 : gP [0, 2, 3] [PV.str "refuse", .str "refuse", .str "keep", .tup [], .str "sent"] = [.str "refuse", .str "keep", .tup []] := rfl
  have ok1 := h.d1.ok
  have ok2 := h.d2.ok
  have pa1 := parts_ok (a := true) ok1
  have pa2 := parts_ok (a := true) ok2
  have rc1 : recv [(4, f_Joining_parts)] (some (jn true (vP (Pd1 P)))) = some f_Joining_parts := rfl
  have rc2 : recv [(4, f_Joining_parts)] (some (jn true (vP (Pd2 P)))) = some f_Joining_parts := rfl
  have pe1 : permF [0, 1, 2, 3, 4, 5, 6, 7] [0, 1, 2, 3, 4, 5, 6, 7] f_Joining___init__ [.ins true 4 [], (vP P).a, (vP P).b, .str "refuse", .str "refuse", .str "keep", .tup [], .str "sent"] = .ok .non [jn true (vP (Pd1 P)), (vP P).a, (vP P).b, .str "refuse", .str "refuse", .str "keep", .tup [], .str "sent"] := by
    unfold permF
    rw [show gP [0, 1, 2, 3, 4, 5, 6, 7] [.ins true 4 [], (vP P).a, (vP P).b, .str "refuse", .str "refuse", .str "keep", .tup [], .str "sent"] = .ins true 4 [] :: (vP (Pd1 P)).l from rfl, init_yes ok1 h.d1.g.ok]
    rfl
  have pe2 : permF [0, 1, 2, 5, 3, 6, 7, 4] [0, 1, 2, 4, 7, 3, 5, 6] f_Joining___init__ [.ins true 4 [], (vP P).a, (vP P).b, .str "make", .str "all", .str "refuse", .str "keep", .tup []] = .ok .non [jn true (vP (Pd2 P)), (vP P).a, (vP P).b, .str "make", .str "all", .str "refuse", .str "keep", .tup []] := by
    unfold permF
    rw [show gP [0, 1, 2, 5, 3, 6, 7, 4] [.ins true 4 [], (vP P).a, (vP P).b, .str "make", .str "all", .str "refuse", .str "keep", .tup []] = .ins true 4 [] :: (vP (Pd2 P)).l from rfl, init_yes ok2 h.d2.g.ok]
    rfl
  have sm2 : f__law_same 6 [.lst true [.tup (vP (Pd1 P)).l, .tup (vP (Pd2 P)).l], .lst true [.tup (vP (Pd1 P)).l, .tup (vP (Pd2 P)).l]] = .ok (.bl true) [.lst true [.tup (vP (Pd1 P)).l, .tup (vP (Pd2 P)).l], .lst true [.tup (vP (Pd1 P)).l, .tup (vP (Pd2 P)).l]] := by
    refine same_refl 5 (by decide) (.li ?_) ?_
    · simp only [fros_cons, fro_tup, h.d1.fros, h.d2.fros, fros_nil, Bool.and_self]
    · show (decide ([PV.tup (vP (Pd1 P)).l, .tup (vP (Pd2 P)).l].length ≤ 1000) && (okD 4 (.tup (vP (Pd1 P)).l) && (okD 4 (.tup (vP (Pd2 P)).l) && true))) = true
      rw [h.d1.d.tup, h.d2.d.tup]; rfl
  have l1 : (vP (Pd1 P)).l = [(vP P).a, (vP P).b, .str "refuse", .str "refuse", .str "keep", .tup [], .str "sent"] := rfl
  have l2 : (vP (Pd2 P)).l = [(vP P).a, (vP P).b, .str "refuse", .str "make", .str "keep", .tup [], .str "all"] := rfl
  rw [l1] at pa1 sm2
  rw [l2] at pa2 sm2
  have fa := ok.a.fr
  have fb := ok.b.fr
  have za := frz_of_fro fa
  have zb := frz_of_fro fb
  have i0 : ix (.tup (vP P).l) (.int 0) = some (vP P).a := onlyFro_t fa
  have i1 : ix (.tup (vP P).l) (.int 1) = some (vP P).b := onlyFro_t fb
  have am : bAdd (.lst true [.tup [.tup [.str "rather"], .tup [.str "other"]], .tup [.tup [], .tup [.tup [.str "rather", .str "keep"]]], .tup [.str "all", .str "none"], .tup [.str "skip", .str "make"]]) (.lst true [.tup [.str "keep", .str "drop"], .tup [.tup [], .tup [.str "rather"]], .tup [.str "sent", .str "all"]]) = some (.lst true MENUS) := addL_pv rfl rfl (by unfold big; simp)
  clear d1 d2 d3 l1 l2
  unfold ER at lp
  generalize jn true (vP P) = J at *
  generalize jn true (vP (Pd1 P)) = J1 at *
  generalize jn true (vP (Pd2 P)) = J2 at *
  generalize (vP P).l = L at *
  generalize (vP P).a = A at *
  generalize (vP P).b = B at *
  generalize PV.lst true MENUS = M at *
  simp only [f__law_equal_right, b__law_equal_right, g1, g2, List.append_nil, List.cons_append, List.nil_append]
  rw [mk_eq rfl]
  simp -implicitDefEqProofs [pl, nm, fl, lp, t1, t2, t3, pa, ce, sm, rc, rc1, rc2, pa1, pa2, pe1, pe2, sm2, i0, i1, am, za, zb, fa, fb, fj, -ix_t]
end Law
set_option Elab.async false
set_option linter.all false
set_option maxRecDepth 100000
set_option maxHeartbeats 4000000
/-! k22: the pot of the script. -/
namespace Law
open PySem (Str)
open Tr Tr.Ev
theorem q18 : bPow (.int 10) (.int 18) = some (.int 1000000000000000000) := by rw [pow_ii (by decide +kernel)]; exact congrArg (fun z => some (PV.int z)) (by decide +kernel : (10 : Int) ^ (18 : Int).toNat = 1000000000000000000)
theorem pot_ok {ns : List Int} {k : Nat} (hk : k < 100) (hb : ∀ z ∈ ns, PySem.Builtin.Int.intBits z ≤ 1048576) : ∃ p, f__law_pot [.lst false (ns.map .int), .int (k : Nat)] = .ok p [.lst false (ns.map .int), .int (k : Nat)] ∧ Pot p := by
  obtain ⟨r, hr⟩ : ∃ r : Int, r = if h : k < ns.length then ns[k] else 0 := ⟨_, rfl⟩
  have rb : r.natAbs.log2 ≤ 1048576 := by
    rw [hr]
    split
    · rename_i h
      have := hb _ (List.getElem_mem h)
      unfold PySem.Builtin.Int.intBits at this
      generalize ns[k] = z at *
      by_cases z0 : z = 0
      · rw [z0]; decide
      · rw [if_neg (by simpa using z0)] at this
        omega
    · decide
  obtain ⟨a, ha⟩ : ∃ a : Int, a = (if r < 0 then -r else r) := ⟨_, rfl⟩
  obtain ⟨dp, hd⟩ : ∃ dp : Int, dp = (if a - 1000000000000000000 > 0 then a - 1000000000000000000 else 0) := ⟨_, rfl⟩
  have ab : fAbs (.int r) = some (.int a) := by rw [ha]; rfl
  have mx : fMax2 (.int 0) (.int (a - 1000000000000000000)) = some (.int dp) := by rw [hd]; rfl
  have k1 : bMul (.int r) (.int 7368787) = some (.int (r * 7368787)) := by
    have : (7368787 : Int).natAbs.log2 < 30 := by decide +kernel
    exact mul_ii (mulOk_lt (by omega))
  have k2 : bMul (.int 104729) (.int (k : Nat)) = some (.int (104729 * (k : Nat))) := mul_small (by decide) (by decide) (by omega) (by omega)
  obtain ⟨n, hn⟩ : ∃ n : Int, n = (r * 7368787 + 104729 * (k : Nat) + 15485863) % 999999999961 := ⟨_, rfl⟩
  have m1 : bMod (.int (r * 7368787 + 104729 * (k : Nat) + 15485863)) (.int 999999999961) = some (.int n) := by rw [hn]; exact mod_ii (by decide)
  have m2 : bMod (.int r) (.int 999999999989) = some (.int (r % 999999999989)) := mod_ii (by decide)
  have nb := mod_b (x := r * 7368787 + 104729 * (k : Nat) + 15485863) (m := 999999999961) (by decide)
  have sb := mod_b (x := r) (m := 999999999989) (by decide)
  rw [← hn] at nb
  generalize r % 999999999989 = z at *
  have fin : ∃ q, q = pot dp z n ∧ Pot q := ⟨_, rfl, ⟨_, _, _, rfl, by omega, by omega, by omega, by omega⟩⟩
  obtain ⟨q, hq, hp⟩ := fin
  refine ⟨q, ?_, hp⟩
  have lt : cLt (.int (k : Nat)) (.int (ns.length : Nat)) = some (decide (k < ns.length)) := by
    show some (decide (((k : Nat) : Int) < (ns.length : Nat))) = _
    congr 1
    rw [Bool.eq_iff_iff]; simp
  have fi := fros_enc frInt ns
  have ln := len_encL (enc := PV.int) (b := false) (xs := ns)
  have sb1 : bSub (.int a) (.int 1000000000000000000) = some (.int (a - 1000000000000000000)) := rfl
  have pk : k < ns.length → ix (.lst false (ns.map .int)) (.int (k : Nat)) = some (.int r) := fun c => by
    obtain ⟨x, e, _, i⟩ := ix_encL (enc := PV.int) frInt (b := false) (xs := ns) (i := (k : Nat)) (by omega) (by omega)
    rw [i, hr, dif_pos c]
    rw [Int.toNat_natCast, List.getElem?_eq_getElem c] at e
    cases e; rfl
  have q18 := q18
  simp only [f__law_pot, b__law_pot]
  rw [mk_eq rfl]
  rw [hq]
  generalize r * 7368787 = rm at *
  generalize (104729 : Int) * (k : Nat) = km at *
  generalize ns.map PV.int = W at *
  by_cases c : k < ns.length
  · have pk := pk c
    have lt : cLt (.int (k : Nat)) (.int (ns.length : Nat)) = some true := by rw [lt, decide_eq_true c]
    simp -implicitDefEqProofs [lt, ln, pk, ab, mx, m1, m2, q18, k1, k2, fi, sb1, pot, -ix_l, -abs_i, -max_ii, -len_lst, -lt_ii]
  · rw [dif_neg c] at hr
    subst hr
    have lt : cLt (.int (k : Nat)) (.int (ns.length : Nat)) = some false := by rw [lt, decide_eq_false c]
    simp -implicitDefEqProofs [lt, ln, ab, mx, m1, m2, q18, k1, k2, fi, sb1, pot, -ix_l, -abs_i, -max_ii, -len_lst, -lt_ii, -sub_ii]
end Law
set_option Elab.async false
set_option linter.all false
set_option maxRecDepth 100000
set_option maxHeartbeats 4000000
/-! k22: a turn's parts bent, made, compared. -/
namespace Law
open PySem (Str)
open Tr Tr.Ev
theorem wordB_str {ks : List Str} {v : PV} (h : wordB ks v = true) : ∃ x, v = .str x := by
  refine isS_ex ?_
  cases z : isS v with
  | true => rfl
  | false => rw [wordB_f z] at h; cases h
theorem itemsB_d {k : Bool} {v : PV} (h : itemsB k v = true) (l : ∀ xs, v = .tup xs → xs.length ≤ 60) : okD 3 v = true := by
  obtain ⟨ws, rfl⟩ := items_strs h
  have := l _ rfl
  rw [List.length_map] at this
  exact okD_strs (by omega)
theorem writeB_d {v : PV} (h : writeB v = true) (l : ∀ xs, v = .tup xs → xs.length ≤ 60) : okD 3 v = true := by
  have t : isT v = true := by
    cases z : isT v with
    | true => rfl
    | false => rw [writeB_f z] at h; cases h
  obtain ⟨xs, rfl⟩ := isT_ex t
  have l := l _ rfl
  have h : (xs.all pairT && (xs.all (fun x => wordB BLS (p1 x)) && itemsB false (.tup (xs.map p0)))) = true := h
  rw [Bool.and_eq_true, Bool.and_eq_true] at h
  obtain ⟨h1, h2, h3⟩ := h
  have h3 : (((xs.map p0).all fun x => itemB x && (false || !decide (sv x = KY))) && decide ((xs.map p0).map sv).Nodup) = true := h3
  rw [Bool.and_eq_true] at h3
  show (decide (xs.length ≤ 1000) && xs.all (okD 2)) = true
  rw [decide_eq_true (by omega)]
  refine List.all_eq_true.mpr fun x m => ?_
  have px := pair_ex (List.all_eq_true.mp h1 x m)
  obtain ⟨y, ey⟩ := wordB_str (List.all_eq_true.mp h2 x m)
  have i0 := List.all_eq_true.mp h3.1 (p0 x) (List.mem_map.mpr ⟨x, m, rfl⟩)
  rw [Bool.and_eq_true] at i0
  obtain ⟨z, ez⟩ := isS_ex (isS_item i0.1)
  rw [px, ey, ez]; rfl
theorem wrong_g {v : V7} (h : wrongV v = .non) : V7G v := by
  unfold wrongV at h
  have k : ∀ {b : Bool} {x : Str} {y : PV}, (if b = true then y else .str x) = PV.non → b = true ∧ y = .non := fun {b x y} e => by
    cases b with
    | true => rw [if_pos rfl] at e; exact ⟨rfl, e⟩
    | false => rw [if_neg (by decide)] at e; cases e
  obtain ⟨h1, h⟩ := k h
  obtain ⟨h2, h⟩ := k h
  obtain ⟨h3, h⟩ := k h
  obtain ⟨h4, h⟩ := k h
  obtain ⟨h5, h⟩ := k h
  obtain ⟨h6, h⟩ := k h
  obtain ⟨h7, h⟩ := k h
  rw [Bool.and_eq_true] at h1
  exact ⟨h1.1, by simpa using h1.2, h2, h3, h4, h5, h6, h7⟩
theorem good_d {v : V7} (h : V7Ok v) (hw : wrongV v = .non) : V7D v := by
  have g := wrong_g hw
  have s : ∀ {ks : List Str} {x : PV}, wordB ks x = true → okD 3 x = true := fun {ks x} e => by
    obtain ⟨y, rfl⟩ := wordB_str e
    rfl
  exact ⟨itemsB_d g.a fun xs e => (h.ae xs e).2, writeB_d g.b fun xs e => (h.be xs e).2, s g.c, s g.d, s g.e, itemsB_d g.f fun xs e => (h.fe xs e).2, s g.g⟩
structure P8 (P : Prt) : Prop where
  b : P.by_.length ≤ 8
  t : P.to.length ≤ 8
  f : P.fresh.length ≤ 8
abbrev EL (S : PV) (at_ : Option PV) (p : PV) (n3 n4 : Option PV) (P : Prt) (n6 : Option PV) (bad n8 n9 n10 n11 n12 n13 : Option PV) : Env := [some S, at_, some p, n3, n4, some (.tup (vP P).l), n6, bad, n8, n9, n10, n11, n12, n13]
def LSB : SF := (sSeq (sSet 4 (eCall f__law_draw [(.nm 2), (.ev (eC (.int 7)))] [])) (sPutL 7 (eNm 4) (eCall f__law_bent [(.nm 2), (.nm 4), (.ev (eP2 ix (.nm 5) (.nm 4)))] [])))
section
variable {S p : PV} {P : Prt} {v : V7} {a1 n3 n4 n6 n8 n9 n10 n11 n12 n13 : Option PV}
theorem put7 {v : V7} {k : Nat} (hk : k < 7) : ixN v.l.length (k : Nat) = some k := by
  have : v.l.length = 7 := rfl
  rw [ixN_nn (by omega) (by omega), Int.toNat_natCast]
theorem bend_run {d : Int} {k : Nat} {x r : PV} {p1 p2 : PV} {u : V7} (h : Pot p) (h1 : Pot p1) (h2 : Pot p2) (g : PG P) (hk : k < 7) (ek : d = (k : Nat)) (e1 : f__law_draw [p, .int 7] = .ok (.int d) [p1, .int 7]) (hx : (vP P).l[k]? = some x) (fx : fro x = true)
    (eb : f__law_bent [p1, .int d, x] = .ok r [p2, .int d, x]) (hu : u.l = v.l.set k r) : LSB (EL S a1 p n3 n4 P n6 (some (.lst true v.l)) n8 n9 n10 n11 n12 n13) = .nx (EL S a1 p2 n3 (some (.int d)) P n6 (some (.lst true u.l)) n8 n9 n10 n11 n12 n13) := by
  have w0 := h.own
  have w1 := h1.own
  have w2 := h2.own
  have i1 : ix (.tup (vP P).l) (.int d) = some x := by
    show (atI (vP P).l d).bind onlyFro = _
    unfold atI
    have ll : (vP P).l.length = 7 := rfl
    rw [ek, ixN_nn (by omega) (by omega), Option.bind_some, Int.toNat_natCast, hx]
    exact onlyFro_t fx
  have pt := put7 (v := v) hk
  rw [← ek] at pt
  unfold LSB EL
  rw [hu]
  generalize v.l = L at *
  generalize (vP P).l = V at *
  simp -implicitDefEqProofs [e1, eb, i1, w0, w1, w2, pt, -ix_t]
theorem bend_turn (h : Pot p) (g : PG P) (l8 : P8 P) (hv : V7Ok v) : ∃ (u : V7) (p' : PV) (o4 : Option PV), LSB (EL S a1 p n3 n4 P n6 (some (.lst true v.l)) n8 n9 n10 n11 n12 n13) = .nx (EL S a1 p' n3 o4 P n6 (some (.lst true u.l)) n8 n9 n10 n11 n12 n13) ∧ V7Ok u ∧ Pot p' := by
  obtain ⟨d, p1, e1, d0, d1, h1⟩ := draw_ok (m := 7) h (by decide) (by decide)
  have lb : ∀ x ∈ P.by_, x.length ≤ 8 := fun x m => (g.b x m).l8
  have lf : ∀ x ∈ P.fresh, x.length ≤ 8 := fun x m => (g.f x m).l8
  have gv := g.ok
  have d7 : d = 0 ∨ d = 1 ∨ d = 2 ∨ d = 3 ∨ d = 4 ∨ d = 5 ∨ d = 6 := by omega
  rcases d7 with rfl | rfl | rfl | rfl | rfl | rfl | rfl
  · obtain ⟨r, p2, eb, dr, h2⟩ := bent_names h1 (.inl rfl) lb l8.b
    exact ⟨{ v with a := r }, p2, _, bend_run (k := 0) (x := (vP P).a) h h1 h2 g (by decide) rfl e1 rfl gv.a.fr eb rfl, ⟨dr.1, hv.b, hv.c, hv.d, hv.e, hv.f, hv.g, dr.2, hv.be, hv.fe⟩, h2⟩
  · obtain ⟨r, p2, eb, dr, h2⟩ := bent_write h1 l8.t
    exact ⟨{ v with b := r }, p2, _, bend_run (k := 1) (x := (vP P).b) h h1 h2 g (by decide) rfl e1 rfl gv.b.fr eb rfl, ⟨hv.a, dr.1, hv.c, hv.d, hv.e, hv.f, hv.g, hv.ae, dr.2, hv.fe⟩, h2⟩
  · obtain ⟨r, p2, eb, dr, h2⟩ := bent_word (x := P.which) h1 (.inl rfl)
    exact ⟨{ v with c := r }, p2, _, bend_run (k := 2) (x := (vP P).c) h h1 h2 g (by decide) rfl e1 rfl gv.c.fr eb rfl, ⟨hv.a, hv.b, dr, hv.d, hv.e, hv.f, hv.g, hv.ae, hv.be, hv.fe⟩, h2⟩
  · obtain ⟨r, p2, eb, dr, h2⟩ := bent_word (x := P.unmet) h1 (.inr (.inl rfl))
    exact ⟨{ v with d := r }, p2, _, bend_run (k := 3) (x := (vP P).d) h h1 h2 g (by decide) rfl e1 rfl gv.d.fr eb rfl, ⟨hv.a, hv.b, hv.c, dr, hv.e, hv.f, hv.g, hv.ae, hv.be, hv.fe⟩, h2⟩
  · obtain ⟨r, p2, eb, dr, h2⟩ := bent_word (x := P.left) h1 (.inr (.inr (.inl rfl)))
    exact ⟨{ v with e := r }, p2, _, bend_run (k := 4) (x := (vP P).e) h h1 h2 g (by decide) rfl e1 rfl gv.e.fr eb rfl, ⟨hv.a, hv.b, hv.c, hv.d, dr, hv.f, hv.g, hv.ae, hv.be, hv.fe⟩, h2⟩
  · obtain ⟨r, p2, eb, dr, h2⟩ := bent_names h1 (.inr rfl) lf l8.f
    exact ⟨{ v with f := r }, p2, _, bend_run (k := 5) (x := (vP P).f) h h1 h2 g (by decide) rfl e1 rfl gv.f.fr eb rfl, ⟨hv.a, hv.b, hv.c, hv.d, hv.e, dr.1, hv.g, hv.ae, hv.be, dr.2⟩, h2⟩
  · obtain ⟨r, p2, eb, dr, h2⟩ := bent_word (x := P.where_) h1 (.inr (.inr (.inr rfl)))
    exact ⟨{ v with g := r }, p2, _, bend_run (k := 6) (x := (vP P).g) h h1 h2 g (by decide) rfl e1 rfl gv.g.fr eb rfl, ⟨hv.a, hv.b, hv.c, hv.d, hv.e, hv.f, dr, hv.ae, hv.be, hv.fe⟩, h2⟩
theorem bend_loop (h : Pot p) (g : PG P) (l8 : P8 P) (hv : V7Ok v) : ∃ (u : V7) (p' : PV) (o4 o8 : Option PV), sFor (iRange1 (eCall f__law_draw [(.nm 2), (.ev (eC (.int 4)))] [])) (bN 8) LSB (EL S a1 p n3 n4 P n6 (some (.lst true v.l)) n8 n9 n10 n11 n12 n13) = .nx (EL S a1 p' n3 o4 P n6 (some (.lst true u.l)) o8 n9 n10 n11 n12 n13) ∧ V7Ok u ∧ Pot p' := by
  obtain ⟨d, p1, e1, d0, d1, h1⟩ := draw_ok (m := 4) h (by decide) (by decide)
  have w0 := h.own
  have w1 := h1.own
  have hr := range1_run (f := eCall f__law_draw [(.nm 2), (.ev (eC (.int 4)))] []) (ρ := EL S a1 p n3 n4 P n6 (some (.lst true v.l)) n8 n9 n10 n11 n12 n13) (ρ1 := EL S a1 p1 n3 n4 P n6 (some (.lst true v.l)) n8 n9 n10 n11 n12 n13) (n := d) (by
    unfold EL
    generalize v.l = L at *
    generalize (vP P).l = V at *
    simp -implicitDefEqProofs [e1, w0, w1]) d0 (by omega)
  obtain ⟨ρ', e, u, p', o4, o8, rfl, hu, hp⟩ := loop_run (b := bN 8) (s := LSB) (xs := (List.range d.toNat).map fun i => PV.int (i : Nat)) (ρ := EL S a1 p1 n3 n4 P n6 (some (.lst true v.l)) n8 n9 n10 n11 n12 n13)
    (fun _ ρ => ∃ (u : V7) (p' : PV) (o4 o8 : Option PV), ρ = EL S a1 p' n3 o4 P n6 (some (.lst true u.l)) o8 n9 n10 n11 n12 n13 ∧ V7Ok u ∧ Pot p') ⟨v, p1, n4, n8, rfl, hv, h1⟩ fun i x ρ hx hp => by
      obtain ⟨u, p', o4, o8, rfl, hu, hp⟩ := hp
      refine ⟨EL S a1 p' n3 o4 P n6 (some (.lst true u.l)) (some x) n9 n10 n11 n12 n13, rfl, .inl ?_⟩
      obtain ⟨u2, p2, o42, e2, hu2, hp2⟩ := bend_turn (S := S) (a1 := a1) (n3 := n3) (n4 := o4) (n6 := n6) (n8 := some x) (n9 := n9) (n10 := n10) (n11 := n11) (n12 := n12) (n13 := n13) hp g l8 hu
      exact ⟨_, e2, u2, p2, o42, _, rfl, hu2, hp2⟩
  exact ⟨u, p', o4, o8, sFor_run hr e, hu, hp⟩
end
end Law
set_option Elab.async false
set_option linter.all false
set_option maxRecDepth 100000
set_option maxHeartbeats 4000000
/-! k22: the law is true. -/
namespace Law
open PySem (Str)
open Tr Tr.Ev
theorem okD_mono : ∀ {v : PV} {n m : Nat}, n ≤ m → okD n v = true → okD m v = true := by
  intro v
  induction v using PV.rec (motive_2 := fun xs => ∀ {n m : Nat}, n ≤ m → xs.all (okD n) = true → xs.all (okD m) = true) with
  | non => intro n m _ _; cases m <;> rfl
  | bl b => intro n m _ _; cases m <;> rfl
  | int i => intro n m _ _; cases m <;> rfl
  | str x => intro n m _ _; cases m <;> rfl
  | tup xs ih => intro n m l h; cases n with
    | zero => cases h
    | succ n => cases m with
      | zero => omega
      | succ m =>
        have h : (decide (xs.length ≤ 1000) && xs.all (okD n)) = true := h
        rw [Bool.and_eq_true] at h
        show (decide (xs.length ≤ 1000) && xs.all (okD m)) = true
        rw [h.1, ih (n := n) (m := m) (by omega) h.2]; rfl
  | lst w xs ih => intro n m l h; cases n with
    | zero => cases h
    | succ n => cases m with
      | zero => omega
      | succ m =>
        have h : (decide (xs.length ≤ 1000) && xs.all (okD n)) = true := h
        rw [Bool.and_eq_true] at h
        show (decide (xs.length ≤ 1000) && xs.all (okD m)) = true
        rw [h.1, ih (n := n) (m := m) (by omega) h.2]; rfl
  | dct w ks vs ih => intro n m l h; cases n <;> cases h
  | ins w c vs ih => intro n m l h; cases n <;> cases h
  | con k => intro n m l h; cases n <;> cases h
  | exc k vs ih => intro n m l h; cases n <;> cases h
  | st w xs ih => intro n m l h; cases n <;> cases h
  | nil => rfl
  | cons x xs ih1 ih2 =>
    rename_i n m l h
    rw [List.all_cons, Bool.and_eq_true] at h ⊢
    exact ⟨ih1 l h.1, ih2 l h.2⟩
theorem same_val {v : PV} (f : fro v = true) (h : okD 5 v = true) : f__law_same 6 [v, v] = .ok (.bl true) [v, v] := same_refl 5 (by decide) (.eq f) h
def MKB : SF := (sSeq (sSetT (bT [(bN 11), (bN 12), (bN 13)]) (eCall f__law_made [(.nm 7), (.nm 10)] []))
    (sSeq (sIf (tOr (tNot (tE (eNm 13))) (tOr (tNot (tE (eCall (f__law_same 6) [(.nm 12), (.nm 9)] []))) (tPV2 cNe (.ev (eT (tPV cIsN (.nm 11)))) (.ev (eT (tPV cNotN (.nm 9))))))) (sRet (eC (.bl false))) sNx)
    (sIf (tAnd (tPV cIsN (.nm 9)) (tNot (tE (eCall (f__law_same 6) [(.ev (eMeth [(4, f_Joining_parts)] (.nm 11) [] [])), (.ev (eP1 fTuple (.nm 7)))] [])))) (sRet (eC (.bl false))) sNx)))
section
variable {S p : PV} {P : Prt} {v : V7} {a1 n3 n4 n6 n8 n9 n10 n11 n12 n13 : Option PV}
theorem made_turn {n : Bool} (hv : V7Ok v) : ∃ o11 o12 o13, MKB (EL S a1 p n3 n4 P n6 (some (.lst false v.l)) n8 (some (wrongV v)) (some (.bl n)) n11 n12 n13) = .nx (EL S a1 p n3 n4 P n6 (some (.lst false v.l)) n8 (some (wrongV v)) (some (.bl n)) o11 o12 o13) := by
  have ft : fro (.lst false v.l) = true := tl7_fro (t := false) hv
  have fl : fros v.l = true := by
    have := fros_frzs v.l
    rwa [hv.frzs] at this
  have tu : fTuple (.lst false v.l) = some (.tup v.l) := by
    show (if fros v.l = true then some (PV.tup v.l) else none) = _
    rw [if_pos fl]
  rcases wrongV_cases v with w | ⟨x, w⟩
  · have m := made_yes (t := false) (n := n) hv w
    have m : f__law_made [.lst false v.l, .bl n] = .ok (.tup [jn false v, .non, .bl true]) [.lst false v.l, .bl n] := m
    have pa := parts_ok (a := false) hv
    have s0 := same_val (v := .non) rfl rfl
    have s1 := same_val (v := .tup v.l) (by rw [fro_tup]; exact fl) (okD_mono (n := 4) (by decide) (good_d hv w).tup)
    have rc : recv [(4, f_Joining_parts)] (some (jn false v)) = some f_Joining_parts := rfl
    have ij : cIsN (jn false v) = some false := rfl
    have fj : fro (jn false v) = true := by
      show fro (.ins false 4 [.tup v.l]) = true
      rw [fro]; simp [fl]
    have nf : cNe (.bl false) (.bl false) = some false := rfl
    rw [w]
    refine ⟨some (jn false v), some .non, some (.bl true), ?_⟩
    unfold MKB EL
    generalize (vP P).l = V at *
    generalize jn false v = J at *
    generalize v.l = L at *
    simp -implicitDefEqProofs [m, pa, s0, s1, rc, ij, fj, nf, tu, ft, fl]
  · have m := made_no (t := false) (n := n) hv w
    have m : f__law_made [.lst false v.l, .bl n] = .ok (.tup [.non, .str x, .bl true]) [.lst false v.l, .bl n] := m
    have s0 := same_val (v := .str x) rfl rfl
    have nf : cNe (.bl true) (.bl true) = some false := rfl
    have i1 : cIsN (.str x) = some false := rfl
    have i2 : cNotN (.str x) = some true := rfl
    rw [w]
    refine ⟨some .non, some (.str x), some (.bl true), ?_⟩
    unfold MKB EL
    generalize (vP P).l = V at *
    generalize v.l = L at *
    simp -implicitDefEqProofs [m, s0, nf, i1, i2, ft, fl]
theorem made_loop (hv : V7Ok v) : ∃ o10 o11 o12 o13, sFor (iE (eTup (aCons (eC (.bl false)) (aCons (eC (.bl true)) aNil)))) (bN 10) MKB (EL S a1 p n3 n4 P n6 (some (.lst false v.l)) n8 (some (wrongV v)) n10 n11 n12 n13) = .nx (EL S a1 p n3 n4 P n6 (some (.lst false v.l)) n8 (some (wrongV v)) o10 o11 o12 o13) := by
  have hw : iE (eTup (aCons (eC (.bl false)) (aCons (eC (.bl true)) aNil))) (EL S a1 p n3 n4 P n6 (some (.lst false v.l)) n8 (some (wrongV v)) n10 n11 n12 n13) = .ok [.bl false, .bl true] (EL S a1 p n3 n4 P n6 (some (.lst false v.l)) n8 (some (wrongV v)) n10 n11 n12 n13) := iE_run (v := .tup [.bl false, .bl true]) (by simp -implicitDefEqProofs) rfl
  obtain ⟨ρ', e, o10, o11, o12, o13, rfl⟩ := loop_run (b := bN 10) (s := MKB) (xs := [.bl false, .bl true]) (ρ := EL S a1 p n3 n4 P n6 (some (.lst false v.l)) n8 (some (wrongV v)) n10 n11 n12 n13)
    (fun _ ρ => ∃ o10 o11 o12 o13, ρ = EL S a1 p n3 n4 P n6 (some (.lst false v.l)) n8 (some (wrongV v)) o10 o11 o12 o13) ⟨_, _, _, _, rfl⟩ fun i x ρ hx hp => by
      obtain ⟨o10, o11, o12, o13, rfl⟩ := hp
      obtain ⟨n, rfl⟩ : ∃ n : Bool, x = .bl n := by
        have := List.mem_of_getElem? hx
        simp only [List.mem_cons, List.not_mem_nil, or_false] at this
        rcases this with rfl | rfl <;> exact ⟨_, rfl⟩
      refine ⟨EL S a1 p n3 n4 P n6 (some (.lst false v.l)) n8 (some (wrongV v)) (some (.bl n)) o11 o12 o13, rfl, .inl ?_⟩
      obtain ⟨a, b, c, e⟩ := made_turn (S := S) (p := p) (P := P) (a1 := a1) (n3 := n3) (n4 := n4) (n6 := n6) (n8 := n8) (n11 := o11) (n12 := o12) (n13 := o13) (n := n) hv
      exact ⟨_, e, _, _, _, _, rfl⟩
  exact ⟨o10, o11, o12, o13, sFor_run hw e⟩
def TNB : SF := (sSeq (sSet 7 (eP1 fList (.nm 5)))
    (sSeq (sFor (iRange1 (eCall f__law_draw [(.nm 2), (.ev (eC (.int 4)))] [])) (bN 8) LSB)
    (sSeq (sSet 9 (eCall f__law_wrong [(.nm 7)] []))
    (sFor (iE (eTup (aCons (eC (.bl false)) (aCons (eC (.bl true)) aNil)))) (bN 10) MKB))))
theorem turn_ok {n7 : Option PV} (h : Pot p) (g : PG P) (l8 : P8 P) : ∃ (p' : PV) (o4 o7 o8 o9 o10 o11 o12 o13 : Option PV), TNB (EL S a1 p n3 n4 P n6 n7 n8 n9 n10 n11 n12 n13) = .nx (EL S a1 p' n3 o4 P n6 o7 o8 o9 o10 o11 o12 o13) ∧ Pot p' := by
  have fl := g.fros
  have li : fList (.tup (vP P).l) = some (.lst true (vP P).l) := by
    show (if fros (vP P).l = true then some (PV.lst true (vP P).l) else none) = _
    rw [if_pos fl]
  have s1 : sSet 7 (eP1 fList (.nm 5)) (EL S a1 p n3 n4 P n6 n7 n8 n9 n10 n11 n12 n13) = .nx (EL S a1 p n3 n4 P n6 (some (.lst true (vP P).l)) n8 n9 n10 n11 n12 n13) := by
    unfold EL
    generalize (vP P).l = V at *
    simp -implicitDefEqProofs [li]
  obtain ⟨u, p', o4, o8, e2, hu, hp⟩ := bend_loop (S := S) (a1 := a1) (n3 := n3) (n4 := n4) (n6 := n6) (n8 := n8) (n9 := n9) (n10 := n10) (n11 := n11) (n12 := n12) (n13 := n13) h g l8 g.ok
  have wr := lwrong_ok (w := true) hu
  have s3 : sSet 9 (eCall f__law_wrong [(.nm 7)] []) (EL S a1 p' n3 o4 P n6 (some (.lst true u.l)) o8 n9 n10 n11 n12 n13) = .nx (EL S a1 p' n3 o4 P n6 (some (.lst false u.l)) o8 (some (wrongV u)) n10 n11 n12 n13) := by
    unfold EL
    generalize (vP P).l = V at *
    generalize u.l = U at *
    simp -implicitDefEqProofs [wr]
  obtain ⟨o10, o11, o12, o13, e4⟩ := made_loop (S := S) (p := p') (P := P) (a1 := a1) (n3 := n3) (n4 := o4) (n6 := n6) (n8 := o8) (n10 := n10) (n11 := n11) (n12 := n12) (n13 := n13) hu
  exact ⟨p', o4, _, o8, _, o10, o11, o12, o13, seq_nx s1 (seq_nx e2 (seq_nx s3 e4)), hp⟩
theorem turns_ok {n7 : Option PV} (h : Pot p) (g : PG P) (l8 : P8 P) : ∃ (p' : PV) (o4 o6 o7 o8 o9 o10 o11 o12 o13 : Option PV), sFor (iRange1 (eC (.int 6))) (bN 6) TNB (EL S a1 p n3 n4 P n6 n7 n8 n9 n10 n11 n12 n13) = .nx (EL S a1 p' n3 o4 P o6 o7 o8 o9 o10 o11 o12 o13) ∧ Pot p' := by
  have hr := range1_run (f := eC (.int 6)) (ρ := EL S a1 p n3 n4 P n6 n7 n8 n9 n10 n11 n12 n13) (ρ1 := EL S a1 p n3 n4 P n6 n7 n8 n9 n10 n11 n12 n13) (n := 6) rfl (by decide) (by decide)
  obtain ⟨ρ', e, p', o4, o6, o7, o8, o9, o10, o11, o12, o13, rfl, hp⟩ := loop_run (b := bN 6) (s := TNB) (xs := (List.range (6 : Int).toNat).map fun i => PV.int (i : Nat)) (ρ := EL S a1 p n3 n4 P n6 n7 n8 n9 n10 n11 n12 n13)
    (fun _ ρ => ∃ (p' : PV) (o4 o6 o7 o8 o9 o10 o11 o12 o13 : Option PV), ρ = EL S a1 p' n3 o4 P o6 o7 o8 o9 o10 o11 o12 o13 ∧ Pot p') ⟨_, _, _, _, _, _, _, _, _, _, rfl, h⟩ fun i x ρ hx hp => by
      obtain ⟨p', o4, o6, o7, o8, o9, o10, o11, o12, o13, rfl, hp⟩ := hp
      refine ⟨EL S a1 p' n3 o4 P (some x) o7 o8 o9 o10 o11 o12 o13, rfl, .inl ?_⟩
      obtain ⟨p2, q4, q7, q8, q9, q10, q11, q12, q13, e, h2⟩ := turn_ok (S := S) (a1 := a1) (n3 := n3) (n4 := o4) (n6 := some x) (n7 := o7) (n8 := o8) (n9 := o9) (n10 := o10) (n11 := o11) (n12 := o12) (n13 := o13) hp g l8
      exact ⟨_, e, _, _, _, _, _, _, _, _, _, _, rfl, h2⟩
  exact ⟨p', o4, o6, o7, o8, o9, o10, o11, o12, o13, sFor_run hr e, hp⟩
end
theorem PrtOk.g {ns : List Str} {P : Prt} (h : PrtOk ns P) (hn : ∀ x ∈ ns, Wrd x) (l7 : ns.length ≤ 7) : PG P ∧ P8 P := by
  have kw : Wrd KY := wrd_okW okW_key
  have lb := sub_len (m := KY :: ns) h.bn fun x m => by
    rcases h.b x m with m | rfl
    · exact List.mem_cons_of_mem _ m
    · exact List.mem_cons_self
  have lt := sub_len (m := ns) h.tn fun x m => by
    obtain ⟨q, mq, rfl⟩ := List.mem_map.mp m
    exact (h.t q mq).1
  have lf := sub_len (m := ns) h.fn h.f
  rw [List.length_cons] at lb
  rw [List.length_map] at lt
  refine ⟨⟨fun x m => ?_, h.bn, h.b1, fun q m => ⟨hn _ (h.t q m).1, (h.t q m).2⟩, h.tn, h.w, h.u, h.l, fun x m => hn x (h.f x m), h.fn, h.s, by omega, by omega, by omega⟩, by omega, by omega, by omega⟩
  rcases h.b x m with m | rfl
  · exact hn x m
  · exact kw
def LTB : SF := (sSeq (sSet 2 (eCall f__law_pot [(.nm 0), (.nm 1)] []))
    (sSeq (sSet 3 (eCall f__law_names [(.nm 2), (.ev (eP2 bAdd (.ev (eC (.int 1))) (.ev (eCall f__law_draw [(.nm 2), (.ev (eC (.int 6)))] []))))] []))
    (sSeq (sSet 4 (eCall f__law_draw [(.nm 2), (.ev (eP2 bAdd (.ev (eP1 fLen (.nm 3))) (.ev (eC (.int 1)))))] []))
    (sSeq (sSet 3 (eIf (tPV2 cEq (.ev (eCall f__law_draw [(.nm 2), (.ev (eC (.int 2)))] [])) (.ev (eC (.int 0)))) (eP2 bAdd (.ev (eP2 bAdd (.ev (eSl (.nm 3) none (some (eNm 4)))) (.ev (eTup (aCons (eC (.str "key")) aNil))))) (.ev (eSl (.nm 3) (some (eNm 4)) none))) (eNm 3)))
    (sSeq (sSet 5 (eCall f__law_parts [(.nm 2), (.nm 3), (.ev (eT (tPV2 cEq (.ev (eCall f__law_draw [(.nm 2), (.ev (eC (.int 3)))] [])) (.ev (eC (.int 0))))))] []))
    (sSeq (sIf (tNot (tE (eCall f__law_equal_right [(.nm 5)] []))) (sRet (eC (.bl false))) sNx)
    (sFor (iRange1 (eC (.int 6))) (bN 6) TNB)))))))
theorem at_ok {ns : List Int} {k : Nat} (hk : k < 100) (hb : ∀ z ∈ ns, PySem.Builtin.Int.intBits z ≤ 1048576) {o2 o3 o4 o5 o6 o7 o8 o9 o10 o11 o12 o13 : Option PV} : ∃ q2 q3 q4 q5 q6 q7 q8 q9 q10 q11 q12 q13 : Option PV,
    LTB [some (.lst false (ns.map .int)), some (.int (k : Nat)), o2, o3, o4, o5, o6, o7, o8, o9, o10, o11, o12, o13] = .nx [some (.lst false (ns.map .int)), some (.int (k : Nat)), q2, q3, q4, q5, q6, q7, q8, q9, q10, q11, q12, q13] := by
  obtain ⟨p, e0, h0⟩ := pot_ok (k := k) hk hb
  obtain ⟨d1, p1, e1, d10, d11, h1⟩ := draw_ok (m := 6) h0 (by decide) (by decide)
  obtain ⟨ws, p2, e2, lw, hw, nd, h2⟩ := names_ok (m := 1 + d1) h1 (by omega) (by omega)
  obtain ⟨d3, p3, e3, d30, d31, h3⟩ := draw_ok (m := (ws.length : Nat) + 1) h2 (by omega) (by omega)
  obtain ⟨d4, p4, e4, d40, d41, h4⟩ := draw_ok (m := 2) h3 (by decide) (by decide)
  have fi := fros_enc frInt ns
  have fS : fro (.lst false (ns.map .int)) = true := by rw [fro_lf]; exact fi
  have w0 := h0.own
  have w1 := h1.own
  have w2 := h2.own
  have w3 := h3.own
  have w4 := h4.own
  have fw := fros_enc frStr ws
  have zw := frzs_of_fros fw
  have ln := len_encT (enc := PV.str) (xs := ws)
  have sl1 := slT_to frStr (xs := ws) d30
  have sl2 := slT_fr frStr (xs := ws) d30
  have a1 := addT_enc frStr (xs := ws.take d3.toNat) (ys := [KY]) (by rw [List.length_take, List.length_singleton]; unfold big; omega)
  have a1 : bAdd (.tup ((ws.take d3.toNat).map .str)) (.tup [.str "key"]) = some (.tup ((ws.take d3.toNat ++ [KY]).map .str)) := a1
  have a2 := addT_enc frStr (xs := ws.take d3.toNat ++ [KY]) (ys := ws.drop d3.toNat) (by rw [List.length_append, List.length_take, List.length_drop, List.length_singleton]; unfold big; omega)
  have a2 : bAdd (.tup ((ws.take d3.toNat ++ [KY]).map .str)) (.tup ((ws.drop d3.toNat).map .str)) = some (.tup ((withKy ws d3.toNat).map .str)) := a2
  obtain ⟨xs, hxs⟩ : ∃ xs, xs = (if d4 = 0 then withKy ws d3.toNat else ws) := ⟨_, rfl⟩
  have pk := withKy_perm (xs := ws) (n := d3.toNat)
  have kw : Wrd KY := wrd_okW okW_key
  have nk : KY ∉ ws := fun m => (hw _ m).key rfl
  have hx : xs.Nodup ∧ xs ≠ [] ∧ xs.length ≤ 7 ∧ ∀ x ∈ xs, Wrd x := by
    rw [hxs]
    by_cases z : d4 = 0
    · rw [if_pos z]
      have pl := pk.length_eq
      rw [List.length_cons] at pl
      refine ⟨pk.nodup_iff.mpr (List.nodup_cons.mpr ⟨nk, nd⟩), fun e => ?_, by omega, fun x m => ?_⟩
      · rw [e] at pl; cases pl
      · rcases List.mem_cons.mp (pk.mem_iff.mp m) with rfl | m
        · exact kw
        · exact (hw x m).wrd
    · rw [if_neg z]
      refine ⟨nd, fun e => ?_, by omega, fun x m => (hw x m).wrd⟩
      rw [e] at lw
      simp at lw
      omega
  obtain ⟨xn, x0, x7, xw⟩ := hx
  obtain ⟨d5, p5, e5, d50, d51, h5⟩ := draw_ok (m := 3) h4 (by decide) (by decide)
  obtain ⟨P, p6, e6, hP, h6⟩ := parts_draw (b := decide (d5 = 0)) h5 xn x0 x7
  obtain ⟨g, l8⟩ := hP.g xw x7
  have eq := equal_ok g
  rw [ptv_eq] at e6 eq
  have w5 := h5.own
  have w6 := h6.own
  have fx := fros_enc frStr xs
  obtain ⟨p7, q4, q6, q7, q8, q9, q10, q11, q12, q13, e7, h7⟩ := turns_ok (S := .lst false (ns.map .int)) (a1 := some (.int (k : Nat))) (n3 := some (.tup (xs.map .str))) (n4 := some (.int d3)) (n6 := o6) (n7 := o7) (n8 := o8) (n9 := o9) (n10 := o10) (n11 := o11) (n12 := o12) (n13 := o13) h6 g l8
  have fV := g.fros
  have ce : cEq (.int d4) (.int 0) = some (decide (d4 = 0)) := eq_ii
  have ce5 : cEq (.int d5) (.int 0) = some (decide (d5 = 0)) := eq_ii
  refine ⟨some p7, some (.tup (xs.map .str)), q4, some (.tup (vP P).l), q6, q7, q8, q9, q10, q11, q12, q13, ?_⟩
  unfold LTB
  have s1 : sSet 2 (eCall f__law_pot [(.nm 0), (.nm 1)] []) [some (.lst false (ns.map .int)), some (.int (k : Nat)), o2, o3, o4, o5, o6, o7, o8, o9, o10, o11, o12, o13] = .nx [some (.lst false (ns.map .int)), some (.int (k : Nat)), some p, o3, o4, o5, o6, o7, o8, o9, o10, o11, o12, o13] := by
    generalize PV.lst false (ns.map .int) = S at *
    simp -implicitDefEqProofs [e0, fS]
  have s2 : sSet 3 (eCall f__law_names [(.nm 2), (.ev (eP2 bAdd (.ev (eC (.int 1))) (.ev (eCall f__law_draw [(.nm 2), (.ev (eC (.int 6)))] []))))] []) [some (.lst false (ns.map .int)), some (.int (k : Nat)), some p, o3, o4, o5, o6, o7, o8, o9, o10, o11, o12, o13] = .nx [some (.lst false (ns.map .int)), some (.int (k : Nat)), some p2, some (.tup (ws.map .str)), o4, o5, o6, o7, o8, o9, o10, o11, o12, o13] := by
    generalize PV.lst false (ns.map .int) = S at *
    generalize ws.map PV.str = W at *
    simp -implicitDefEqProofs [e1, e2, w0, w1, w2]
  have s3 : sSet 4 (eCall f__law_draw [(.nm 2), (.ev (eP2 bAdd (.ev (eP1 fLen (.nm 3))) (.ev (eC (.int 1)))))] []) [some (.lst false (ns.map .int)), some (.int (k : Nat)), some p2, some (.tup (ws.map .str)), o4, o5, o6, o7, o8, o9, o10, o11, o12, o13] = .nx [some (.lst false (ns.map .int)), some (.int (k : Nat)), some p3, some (.tup (ws.map .str)), some (.int d3), o5, o6, o7, o8, o9, o10, o11, o12, o13] := by
    generalize PV.lst false (ns.map .int) = S at *
    generalize ws.map PV.str = W at *
    simp -implicitDefEqProofs [e3, w2, w3, ln, -len_tup]
  have s4 : sSet 3 (eIf (tPV2 cEq (.ev (eCall f__law_draw [(.nm 2), (.ev (eC (.int 2)))] [])) (.ev (eC (.int 0)))) (eP2 bAdd (.ev (eP2 bAdd (.ev (eSl (.nm 3) none (some (eNm 4)))) (.ev (eTup (aCons (eC (.str "key")) aNil))))) (.ev (eSl (.nm 3) (some (eNm 4)) none))) (eNm 3)) [some (.lst false (ns.map .int)), some (.int (k : Nat)), some p3, some (.tup (ws.map .str)), some (.int d3), o5, o6, o7, o8, o9, o10, o11, o12, o13] = .nx [some (.lst false (ns.map .int)), some (.int (k : Nat)), some p4, some (.tup (xs.map .str)), some (.int d3), o5, o6, o7, o8, o9, o10, o11, o12, o13] := by
    rw [hxs]
    generalize PV.lst false (ns.map .int) = S at *
    generalize (ws.take d3.toNat ++ [KY]).map PV.str = K1 at *
    generalize (ws.take d3.toNat).map PV.str = K2 at *
    generalize (ws.drop d3.toNat).map PV.str = K3 at *
    by_cases z : d4 = 0
    · rw [if_pos z]
      generalize (withKy ws d3.toNat).map PV.str = K at *
      generalize ws.map PV.str = W at *
      have ce0 : cEq (.int 0) (.int 0) = some true := rfl
      simp -implicitDefEqProofs [e4, w3, w4, ce, ce0, z, sl1, sl2, a1, a2]
    · rw [if_neg z]
      generalize ws.map PV.str = W at *
      simp -implicitDefEqProofs [e4, w3, w4, ce, z, zw]
  have s5 : sSet 5 (eCall f__law_parts [(.nm 2), (.nm 3), (.ev (eT (tPV2 cEq (.ev (eCall f__law_draw [(.nm 2), (.ev (eC (.int 3)))] [])) (.ev (eC (.int 0))))))] []) [some (.lst false (ns.map .int)), some (.int (k : Nat)), some p4, some (.tup (xs.map .str)), some (.int d3), o5, o6, o7, o8, o9, o10, o11, o12, o13] = .nx [some (.lst false (ns.map .int)), some (.int (k : Nat)), some p6, some (.tup (xs.map .str)), some (.int d3), some (.tup (vP P).l), o6, o7, o8, o9, o10, o11, o12, o13] := by
    generalize PV.lst false (ns.map .int) = S at *
    generalize (vP P).l = V at *
    generalize xs.map PV.str = W at *
    generalize decide (d5 = 0) = b5 at *
    simp -implicitDefEqProofs [e5, e6, ce5, w4, w5, w6, fx]
  have s6 : sIf (tNot (tE (eCall f__law_equal_right [(.nm 5)] []))) (sRet (eC (.bl false))) sNx [some (.lst false (ns.map .int)), some (.int (k : Nat)), some p6, some (.tup (xs.map .str)), some (.int d3), some (.tup (vP P).l), o6, o7, o8, o9, o10, o11, o12, o13] = .nx [some (.lst false (ns.map .int)), some (.int (k : Nat)), some p6, some (.tup (xs.map .str)), some (.int d3), some (.tup (vP P).l), o6, o7, o8, o9, o10, o11, o12, o13] := by
    generalize PV.lst false (ns.map .int) = S at *
    generalize (vP P).l = V at *
    generalize xs.map PV.str = W at *
    simp -implicitDefEqProofs [eq, fV]
  exact seq_nx s1 (seq_nx s2 (seq_nx s3 (seq_nx s4 (seq_nx s5 (seq_nx s6 e7)))))
theorem law_true (ns : List Int) (hl : ns.length ≤ 63) (hb : ∀ z ∈ ns, PySem.Builtin.Int.intBits z ≤ 1048576) : ∃ as, f_law [.lst false (ns.map .int)] = .ok (.bl true) as := by
  obtain ⟨m, hm⟩ : ∃ m : Int, m = (if (if ((ns.length : Nat) : Int) < 8 then ((ns.length : Nat) : Int) else 8) > 1 then (if ((ns.length : Nat) : Int) < 8 then ((ns.length : Nat) : Int) else 8) else 1) := ⟨_, rfl⟩
  have m0 : 0 ≤ m ∧ m ≤ 8 := by rw [hm]; split <;> split <;> omega
  obtain ⟨ρ', e, o1, o2, o3, o4, o5, o6, o7, o8, o9, o10, o11, o12, o13, rfl⟩ := loop_run (b := bN 1) (s := LTB) (xs := (List.range m.toNat).map fun i => PV.int (i : Nat)) (ρ := [some (.lst false (ns.map .int)), none, none, none, none, none, none, none, none, none, none, none, none, none])
    (fun i ρ => ∃ o1 o2 o3 o4 o5 o6 o7 o8 o9 o10 o11 o12 o13 : Option PV, ρ = [some (.lst false (ns.map .int)), o1, o2, o3, o4, o5, o6, o7, o8, o9, o10, o11, o12, o13]) ⟨none, none, none, none, none, none, none, none, none, none, none, none, none, rfl⟩ fun i x ρ hx hp => by
      obtain ⟨o1, o2, o3, o4, o5, o6, o7, o8, o9, o10, o11, o12, o13, rfl⟩ := hp
      obtain ⟨hi, rfl⟩ := range_get hx
      obtain ⟨q2, q3, q4, q5, q6, q7, q8, q9, q10, q11, q12, q13, e⟩ := at_ok (ns := ns) (k := i) (by omega) hb (o2 := o2) (o3 := o3) (o4 := o4) (o5 := o5) (o6 := o6) (o7 := o7) (o8 := o8) (o9 := o9) (o10 := o10) (o11 := o11) (o12 := o12) (o13 := o13)
      exact ⟨_, rfl, .inl ⟨_, e, _, _, _, _, _, _, _, _, _, _, _, _, _, rfl⟩⟩
  unfold LTB TNB LSB MKB at e
  have mn : fMin2 (.int 8) (.int (ns.length : Nat)) = some (.int (if ((ns.length : Nat) : Int) < 8 then ((ns.length : Nat) : Int) else 8)) := rfl
  have mx : fMax2 (.int 1) (.int (if ((ns.length : Nat) : Int) < 8 then ((ns.length : Nat) : Int) else 8)) = some (.int m) := by rw [hm]; rfl
  have hr : iRange1 (eP2 fMax2 (.ev (eC (.int 1))) (.ev (eP2 fMin2 (.ev (eC (.int 8))) (.ev (eP1 fLen (.nm 0)))))) [some (.lst false (ns.map .int)), none, none, none, none, none, none, none, none, none, none, none, none, none] = .ok ((List.range m.toNat).map fun i => PV.int (i : Nat)) [some (.lst false (ns.map .int)), none, none, none, none, none, none, none, none, none, none, none, none, none] :=
    range1_run (n := m) (by
      generalize (if ((ns.length : Nat) : Int) < 8 then ((ns.length : Nat) : Int) else 8) = z at mn mx
      simp -implicitDefEqProofs [mn, mx, -max_ii, -min_ii]) m0.1 (by omega)
  have e2 := sFor_run hr e
  refine ⟨[.lst false (ns.map .int)], ?_⟩
  simp only [f_law, b_law]
  rw [mk_eq rfl]
  simp only [List.map_cons, List.map_nil, List.length_cons, List.length_nil, List.cons_append, List.nil_append, List.replicate]
  have f0 : fro (.lst false (ns.map PV.int)) = true := by rw [fro_lf]; exact fros_enc frInt ns
  generalize PV.lst false (ns.map PV.int) = L at e2 f0 ⊢
  rw [seq_nx e2 rfl]
  simp -implicitDefEqProofs [f0]
end Law
set_option Elab.async false
set_option linter.all false
set_option maxRecDepth 100000
namespace Law
open PySem PySem.Spec L2 Tr
set_option maxHeartbeats 4000000 in
theorem all_mk {P : Program} {w : World} {K : PySem.W.Frag} {h : Heap} {mg : Str → Option Value} {fa : Addr} {lv : List (Str × PySem.W.WData)} (KX : K.In h) (GT : h.Ns mainGlobals mg) (LA : PySem.W.LooseAre lv mg h) (hlv : lv = ([] : List (Str × PySem.W.WData))) (hfa : mg "law" = some (.ref fa))
    {ga_BLANKS : Addr} {gn_BLANKS : Nat} {gs_BLANKS : Array (Option Value)} {gt0_BLANKS : Tok} {gt1_BLANKS : Tok} (g_BLANKS : PySem.W.nsIn K mainGlobals "BLANKS" = some (some (.ref ga_BLANKS))) (gl_BLANKS : K.lookup ga_BLANKS = some ⟨.type "tuple", none, .seq ([.str "keep" gt0_BLANKS, .str "clear" gt1_BLANKS] : List Value).toArray gn_BLANKS, gs_BLANKS⟩)
    {ga_GONE : Addr} {gn_GONE : Nat} {gs_GONE : Array (Option Value)} {gt0_GONE : Tok} {gt1_GONE : Tok} (g_GONE : PySem.W.nsIn K mainGlobals "GONE" = some (some (.ref ga_GONE))) (gl_GONE : K.lookup ga_GONE = some ⟨.type "tuple", none, .seq ([.str "keep" gt0_GONE, .str "drop" gt1_GONE] : List Value).toArray gn_GONE, gs_GONE⟩)
    {tk_KEY : Tok} (g_KEY : PySem.W.nsIn K mainGlobals "KEY" = some (some (.str "key" tk_KEY)))
    {tk_LETTERS : Tok} (g_LETTERS : PySem.W.nsIn K mainGlobals "LETTERS" = some (some (.str "abcdefghijklmnopqrstuvwxyz" tk_LETTERS)))
    {ga_MANY : Addr} {gn_MANY : Nat} {gs_MANY : Array (Option Value)} {gt0_MANY : Tok} {gt1_MANY : Tok} {gt2_MANY : Tok} {gt3_MANY : Tok} (g_MANY : PySem.W.nsIn K mainGlobals "MANY" = some (some (.ref ga_MANY))) (gl_MANY : K.lookup ga_MANY = some ⟨.type "tuple", none, .seq ([.str "all" gt0_MANY, .str "first" gt1_MANY, .str "none" gt2_MANY, .str "refuse" gt3_MANY] : List Value).toArray gn_MANY, gs_MANY⟩)
    {ga_NEW : Addr} {gn_NEW : Nat} {gs_NEW : Array (Option Value)} {gt0_NEW : Tok} {gt1_NEW : Tok} {gt2_NEW : Tok} (g_NEW : PySem.W.nsIn K mainGlobals "NEW" = some (some (.ref ga_NEW))) (gl_NEW : K.lookup ga_NEW = some ⟨.type "tuple", none, .seq ([.str "skip" gt0_NEW, .str "make" gt1_NEW, .str "refuse" gt2_NEW] : List Value).toArray gn_NEW, gs_NEW⟩)
    {ga_SCOPES : Addr} {gn_SCOPES : Nat} {gs_SCOPES : Array (Option Value)} {gt0_SCOPES : Tok} {gt1_SCOPES : Tok} (g_SCOPES : PySem.W.nsIn K mainGlobals "SCOPES" = some (some (.ref ga_SCOPES))) (gl_SCOPES : K.lookup ga_SCOPES = some ⟨.type "tuple", none, .seq ([.str "sent" gt0_SCOPES, .str "all" gt1_SCOPES] : List Value).toArray gn_SCOPES, gs_SCOPES⟩)
    (b_ValueError : PySem.W.nsIn K mainGlobals "ValueError" = some none)
    (b_abs : PySem.W.nsIn K mainGlobals "abs" = some none)
    (b_all : PySem.W.nsIn K mainGlobals "all" = some none)
    (b_bool : PySem.W.nsIn K mainGlobals "bool" = some none)
    (b_int : PySem.W.nsIn K mainGlobals "int" = some none)
    (b_isinstance : PySem.W.nsIn K mainGlobals "isinstance" = some none)
    (b_len : PySem.W.nsIn K mainGlobals "len" = some none)
    (b_list : PySem.W.nsIn K mainGlobals "list" = some none)
    (b_max : PySem.W.nsIn K mainGlobals "max" = some none)
    (b_min : PySem.W.nsIn K mainGlobals "min" = some none)
    (b_range : PySem.W.nsIn K mainGlobals "range" = some none)
    (b_set : PySem.W.nsIn K mainGlobals "set" = some none)
    (b_str : PySem.W.nsIn K mainGlobals "str" = some none)
    (b_tuple : PySem.W.nsIn K mainGlobals "tuple" = some none)
    {oa4 : Addr}
    (on4 : PySem.W.nsIn K mainGlobals "Joining" = some (some (.ref oa4)))
    {f0 : Addr} {oc0 kV0 doc0 pm0 cd0 ct0 : Value} {od0 an0 : Option Addr} {sl0 : Array (Option Value)} (a0 : PySem.W.findIn K (.ref oa4) "parts" = some (some (.ref f0))) (i0 : PySem.W.isFn K (.ref f0) = true) (j0 : PySem.W.fnIn K f0 = true) (l0 : K.lookup f0 = some ⟨oc0, od0, .func (PySem.W.fnOf "parts" "Joining.parts" (defArgs (inClass (top 21) 1)) (defBody (inClass (top 21) 1)) (defScope (inClass (top 21) 1)) .none kV0 doc0 pm0 an0 cd0 ct0), sl0⟩) (c0 : PySem.W.codeIn K cd0 "Joining.parts" = true) (k0 : PySem.W.keepIn K (.ref f0) = true)
    {f1 : Addr} {oc1 kV1 doc1 pm1 cd1 ct1 : Value} {od1 an1 : Option Addr} {sl1 : Array (Option Value)} (a1 : PySem.W.nsIn K mainGlobals "_law_pot" = some (some (.ref f1))) (l1 : K.lookup f1 = some ⟨oc1, od1, .func (PySem.W.fnOf "_law_pot" "_law_pot" (defArgs (top 23)) (defBody (top 23)) (defScope (top 23)) .none kV1 doc1 pm1 an1 cd1 ct1), sl1⟩) (c1 : PySem.W.codeIn K cd1 "_law_pot" = true) (k1 : PySem.W.keepIn K (.ref f1) = true)
    {f2 : Addr} {oc2 kV2 doc2 pm2 cd2 ct2 : Value} {od2 an2 : Option Addr} {sl2 : Array (Option Value)} (a2 : PySem.W.nsIn K mainGlobals "_law_draw" = some (some (.ref f2))) (l2 : K.lookup f2 = some ⟨oc2, od2, .func (PySem.W.fnOf "_law_draw" "_law_draw" (defArgs (top 24)) (defBody (top 24)) (defScope (top 24)) .none kV2 doc2 pm2 an2 cd2 ct2), sl2⟩) (c2 : PySem.W.codeIn K cd2 "_law_draw" = true) (k2 : PySem.W.keepIn K (.ref f2) = true)
    {f3 : Addr} {oc3 kV3 doc3 pm3 cd3 ct3 : Value} {od3 an3 : Option Addr} {sl3 : Array (Option Value)} (a3 : PySem.W.nsIn K mainGlobals "_law_names" = some (some (.ref f3))) (l3 : K.lookup f3 = some ⟨oc3, od3, .func (PySem.W.fnOf "_law_names" "_law_names" (defArgs (top 26)) (defBody (top 26)) (defScope (top 26)) .none kV3 doc3 pm3 an3 cd3 ct3), sl3⟩) (c3 : PySem.W.codeIn K cd3 "_law_names" = true) (k3 : PySem.W.keepIn K (.ref f3) = true)
    {f4 : Addr} {oc4 kV4 doc4 pm4 cd4 ct4 : Value} {od4 an4 : Option Addr} {sl4 : Array (Option Value)} (a4 : PySem.W.nsIn K mainGlobals "_law_some" = some (some (.ref f4))) (l4 : K.lookup f4 = some ⟨oc4, od4, .func (PySem.W.fnOf "_law_some" "_law_some" (defArgs (top 25)) (defBody (top 25)) (defScope (top 25)) .none kV4 doc4 pm4 an4 cd4 ct4), sl4⟩) (c4 : PySem.W.codeIn K cd4 "_law_some" = true) (k4 : PySem.W.keepIn K (.ref f4) = true)
    {f5 : Addr} {oc5 kV5 doc5 pm5 cd5 ct5 : Value} {od5 an5 : Option Addr} {sl5 : Array (Option Value)} (a5 : PySem.W.nsIn K mainGlobals "_law_parts" = some (some (.ref f5))) (l5 : K.lookup f5 = some ⟨oc5, od5, .func (PySem.W.fnOf "_law_parts" "_law_parts" (defArgs (top 27)) (defBody (top 27)) (defScope (top 27)) .none kV5 doc5 pm5 an5 cd5 ct5), sl5⟩) (c5 : PySem.W.codeIn K cd5 "_law_parts" = true) (k5 : PySem.W.keepIn K (.ref f5) = true)
    {f6 : Addr} {oc6 kV6 doc6 pm6 cd6 ct6 : Value} {od6 an6 : Option Addr} {sl6 : Array (Option Value)} (a6 : PySem.W.nsIn K mainGlobals "_law_is_names" = some (some (.ref f6))) (l6 : K.lookup f6 = some ⟨oc6, od6, .func (PySem.W.fnOf "_law_is_names" "_law_is_names" (defArgs (top 28)) (defBody (top 28)) (defScope (top 28)) .none kV6 doc6 pm6 an6 cd6 ct6), sl6⟩) (c6 : PySem.W.codeIn K cd6 "_law_is_names" = true) (k6 : PySem.W.keepIn K (.ref f6) = true)
    {f7 : Addr} {oc7 kV7 doc7 pm7 cd7 ct7 : Value} {od7 an7 : Option Addr} {sl7 : Array (Option Value)} (a7 : PySem.W.nsIn K mainGlobals "_law_is_write" = some (some (.ref f7))) (l7 : K.lookup f7 = some ⟨oc7, od7, .func (PySem.W.fnOf "_law_is_write" "_law_is_write" (defArgs (top 29)) (defBody (top 29)) (defScope (top 29)) .none kV7 doc7 pm7 an7 cd7 ct7), sl7⟩) (c7 : PySem.W.codeIn K cd7 "_law_is_write" = true) (k7 : PySem.W.keepIn K (.ref f7) = true)
    {f8 : Addr} {oc8 kV8 doc8 pm8 cd8 ct8 : Value} {od8 an8 : Option Addr} {sl8 : Array (Option Value)} (a8 : PySem.W.nsIn K mainGlobals "_law_wrong" = some (some (.ref f8))) (l8 : K.lookup f8 = some ⟨oc8, od8, .func (PySem.W.fnOf "_law_wrong" "_law_wrong" (defArgs (top 30)) (defBody (top 30)) (defScope (top 30)) .none kV8 doc8 pm8 an8 cd8 ct8), sl8⟩) (c8 : PySem.W.codeIn K cd8 "_law_wrong" = true) (k8 : PySem.W.keepIn K (.ref f8) = true)
    {f9 : Addr} {oc9 kV9 doc9 pm9 cd9 ct9 : Value} {od9 an9 : Option Addr} {sl9 : Array (Option Value)} (a9 : PySem.W.nsIn K mainGlobals "_law_bent" = some (some (.ref f9))) (l9 : K.lookup f9 = some ⟨oc9, od9, .func (PySem.W.fnOf "_law_bent" "_law_bent" (defArgs (top 31)) (defBody (top 31)) (defScope (top 31)) .none kV9 doc9 pm9 an9 cd9 ct9), sl9⟩) (c9 : PySem.W.codeIn K cd9 "_law_bent" = true) (k9 : PySem.W.keepIn K (.ref f9) = true)
    {f10 : Addr} {oc10 kV10 doc10 pm10 cd10 ct10 : Value} {od10 an10 : Option Addr} {sl10 : Array (Option Value)} (a10 : PySem.W.nsIn K mainGlobals "_law_is" = some (some (.ref f10))) (l10 : K.lookup f10 = some ⟨oc10, od10, .func (PySem.W.fnOf "_law_is" "_law_is" (defArgs (top 33)) (defBody (top 33)) (defScope (top 33)) .none kV10 doc10 pm10 an10 cd10 ct10), sl10⟩) (c10 : PySem.W.codeIn K cd10 "_law_is" = true) (k10 : PySem.W.keepIn K (.ref f10) = true)
    {f11 : Addr} {oc11 kV11 doc11 pm11 cd11 ct11 : Value} {od11 an11 : Option Addr} {sl11 : Array (Option Value)} (a11 : PySem.W.nsIn K mainGlobals "_law_same" = some (some (.ref f11))) (l11 : K.lookup f11 = some ⟨oc11, od11, .func (PySem.W.fnOf "_law_same" "_law_same" (defArgs (top 32)) (defBody (top 32)) (defScope (top 32)) .none kV11 doc11 pm11 an11 cd11 ct11), sl11⟩) (c11 : PySem.W.codeIn K cd11 "_law_same" = true) (k11 : PySem.W.keepIn K (.ref f11) = true)
    {f12 : Addr} {oc12 kV12 doc12 pm12 cd12 ct12 : Value} {od12 an12 : Option Addr} {sl12 : Array (Option Value)} (a12 : PySem.W.nsIn K mainGlobals "is_name" = some (some (.ref f12))) (l12 : K.lookup f12 = some ⟨oc12, od12, .func (PySem.W.fnOf "is_name" "is_name" (defArgs (top 8)) (defBody (top 8)) (defScope (top 8)) .none kV12 doc12 pm12 an12 cd12 ct12), sl12⟩) (c12 : PySem.W.codeIn K cd12 "is_name" = true) (k12 : PySem.W.keepIn K (.ref f12) = true)
    {f13 : Addr} {oc13 kV13 doc13 pm13 cd13 ct13 : Value} {od13 an13 : Option Addr} {sl13 : Array (Option Value)} (a13 : PySem.W.nsIn K mainGlobals "is_item" = some (some (.ref f13))) (l13 : K.lookup f13 = some ⟨oc13, od13, .func (PySem.W.fnOf "is_item" "is_item" (defArgs (top 9)) (defBody (top 9)) (defScope (top 9)) .none kV13 doc13 pm13 an13 cd13 ct13), sl13⟩) (c13 : PySem.W.codeIn K cd13 "is_item" = true) (k13 : PySem.W.keepIn K (.ref f13) = true)
    {f14 : Addr} {oc14 kV14 doc14 pm14 cd14 ct14 : Value} {od14 an14 : Option Addr} {sl14 : Array (Option Value)} (a14 : PySem.W.nsIn K mainGlobals "are_distinct" = some (some (.ref f14))) (l14 : K.lookup f14 = some ⟨oc14, od14, .func (PySem.W.fnOf "are_distinct" "are_distinct" (defArgs (top 10)) (defBody (top 10)) (defScope (top 10)) .none kV14 doc14 pm14 an14 cd14 ct14), sl14⟩) (c14 : PySem.W.codeIn K cd14 "are_distinct" = true) (k14 : PySem.W.keepIn K (.ref f14) = true)
    {f15 : Addr} {oc15 kV15 doc15 pm15 cd15 ct15 : Value} {od15 an15 : Option Addr} {sl15 : Array (Option Value)} (a15 : PySem.W.nsIn K mainGlobals "are_items" = some (some (.ref f15))) (l15 : K.lookup f15 = some ⟨oc15, od15, .func (PySem.W.fnOf "are_items" "are_items" (defArgs (top 11)) (defBody (top 11)) (defScope (top 11)) .none kV15 doc15 pm15 an15 cd15 ct15), sl15⟩) (c15 : PySem.W.codeIn K cd15 "are_items" = true) (k15 : PySem.W.keepIn K (.ref f15) = true)
    {f16 : Addr} {oc16 kV16 doc16 pm16 cd16 ct16 : Value} {od16 an16 : Option Addr} {sl16 : Array (Option Value)} (a16 : PySem.W.nsIn K mainGlobals "is_word" = some (some (.ref f16))) (l16 : K.lookup f16 = some ⟨oc16, od16, .func (PySem.W.fnOf "is_word" "is_word" (defArgs (top 18)) (defBody (top 18)) (defScope (top 18)) .none kV16 doc16 pm16 an16 cd16 ct16), sl16⟩) (c16 : PySem.W.codeIn K cd16 "is_word" = true) (k16 : PySem.W.keepIn K (.ref f16) = true)
    {f17 : Addr} {oc17 kV17 doc17 pm17 cd17 ct17 : Value} {od17 an17 : Option Addr} {sl17 : Array (Option Value)} (a17 : PySem.W.nsIn K mainGlobals "is_write" = some (some (.ref f17))) (l17 : K.lookup f17 = some ⟨oc17, od17, .func (PySem.W.fnOf "is_write" "is_write" (defArgs (top 19)) (defBody (top 19)) (defScope (top 19)) .none kV17 doc17 pm17 an17 cd17 ct17), sl17⟩) (c17 : PySem.W.codeIn K cd17 "is_write" = true) (k17 : PySem.W.keepIn K (.ref f17) = true)
    {f18 : Addr} {oc18 kV18 doc18 pm18 cd18 ct18 : Value} {od18 an18 : Option Addr} {sl18 : Array (Option Value)} (a18 : PySem.W.nsIn K mainGlobals "wrong_part" = some (some (.ref f18))) (l18 : K.lookup f18 = some ⟨oc18, od18, .func (PySem.W.fnOf "wrong_part" "wrong_part" (defArgs (top 20)) (defBody (top 20)) (defScope (top 20)) .none kV18 doc18 pm18 an18 cd18 ct18), sl18⟩) (c18 : PySem.W.codeIn K cd18 "wrong_part" = true) (k18 : PySem.W.keepIn K (.ref f18) = true)
    {tD19 : Addr}
    {f19 : Addr} {oc19 kV19 doc19 pm19 cd19 ct19 : Value} {od19 an19 : Option Addr} {sl19 : Array (Option Value)} (a19 : PySem.W.findIn K (.ref oa4) "__init__" = some (some (.ref f19))) (i19 : PySem.W.isFn K (.ref f19) = true) (j19 : PySem.W.fnIn K f19 = true) (l19 : K.lookup f19 = some ⟨oc19, od19, .func (PySem.W.fnOf "__init__" "Joining.__init__" (defArgs (inClass (top 21) 0)) (defBody (inClass (top 21) 0)) (defScope (inClass (top 21) 0)) (.ref tD19) kV19 doc19 pm19 an19 cd19 ct19), sl19⟩) (c19 : PySem.W.codeIn K cd19 "Joining.__init__" = true) (k19 : PySem.W.keepIn K (.ref f19) = true)
    {tt19_0 : Tok}
    {tt19_1 : Tok}
    {tt19_2 : Tok}
    {te19_3 : Addr} {tn19_3 : Nat} {ts19_3 : Array (Option Value)}
    {tt19_4 : Tok}
    {dn19 : Nat} {ds19 : Array (Option Value)}
    (dl19 : K.lookup tD19 = some ⟨.type "tuple", none, .seq ([.str "refuse" tt19_0, .str "refuse" tt19_1, .str "keep" tt19_2, .ref te19_3, .str "sent" tt19_4] : List Value).toArray dn19, ds19⟩)
    (de19_3 : K.lookup te19_3 = some ⟨.type "tuple", none, .seq #[] tn19_3, ts19_3⟩)
    {f20 : Addr} {oc20 kV20 doc20 pm20 cd20 ct20 : Value} {od20 an20 : Option Addr} {sl20 : Array (Option Value)} (a20 : PySem.W.nsIn K mainGlobals "_law_plain" = some (some (.ref f20))) (l20 : K.lookup f20 = some ⟨oc20, od20, .func (PySem.W.fnOf "_law_plain" "_law_plain" (defArgs (top 34)) (defBody (top 34)) (defScope (top 34)) .none kV20 doc20 pm20 an20 cd20 ct20), sl20⟩) (c20 : PySem.W.codeIn K cd20 "_law_plain" = true) (k20 : PySem.W.keepIn K (.ref f20) = true)
    {f21 : Addr} {oc21 kV21 doc21 pm21 cd21 ct21 : Value} {od21 an21 : Option Addr} {sl21 : Array (Option Value)} (a21 : PySem.W.nsIn K mainGlobals "_law_by_name" = some (some (.ref f21))) (l21 : K.lookup f21 = some ⟨oc21, od21, .func (PySem.W.fnOf "_law_by_name" "_law_by_name" (defArgs (top 35)) (defBody (top 35)) (defScope (top 35)) .none kV21 doc21 pm21 an21 cd21 ct21), sl21⟩) (c21 : PySem.W.codeIn K cd21 "_law_by_name" = true) (k21 : PySem.W.keepIn K (.ref f21) = true)
    {f22 : Addr} {oc22 kV22 doc22 pm22 cd22 ct22 : Value} {od22 an22 : Option Addr} {sl22 : Array (Option Value)} (a22 : PySem.W.nsIn K mainGlobals "_law_made" = some (some (.ref f22))) (l22 : K.lookup f22 = some ⟨oc22, od22, .func (PySem.W.fnOf "_law_made" "_law_made" (defArgs (top 36)) (defBody (top 36)) (defScope (top 36)) .none kV22 doc22 pm22 an22 cd22 ct22), sl22⟩) (c22 : PySem.W.codeIn K cd22 "_law_made" = true) (k22 : PySem.W.keepIn K (.ref f22) = true)
    {f23 : Addr} {oc23 kV23 doc23 pm23 cd23 ct23 : Value} {od23 an23 : Option Addr} {sl23 : Array (Option Value)} (a23 : PySem.W.findIn K (.ref oa4) "__eq__" = some (some (.ref f23))) (i23 : PySem.W.isFn K (.ref f23) = true) (j23 : PySem.W.fnIn K f23 = true) (l23 : K.lookup f23 = some ⟨oc23, od23, .func (PySem.W.fnOf "__eq__" "Joining.__eq__" (defArgs (inClass (top 21) 2)) (defBody (inClass (top 21) 2)) (defScope (inClass (top 21) 2)) .none kV23 doc23 pm23 an23 cd23 ct23), sl23⟩) (c23 : PySem.W.codeIn K cd23 "Joining.__eq__" = true) (k23 : PySem.W.keepIn K (.ref f23) = true)
    {f24 : Addr} {oc24 kV24 doc24 pm24 cd24 ct24 : Value} {od24 an24 : Option Addr} {sl24 : Array (Option Value)} (a24 : PySem.W.nsIn K mainGlobals "_law_equal_right" = some (some (.ref f24))) (l24 : K.lookup f24 = some ⟨oc24, od24, .func (PySem.W.fnOf "_law_equal_right" "_law_equal_right" (defArgs (top 37)) (defBody (top 37)) (defScope (top 37)) .none kV24 doc24 pm24 an24 cd24 ct24), sl24⟩) (c24 : PySem.W.codeIn K cd24 "_law_equal_right" = true) (k24 : PySem.W.keepIn K (.ref f24) = true)
    {f25 : Addr} {oc25 kV25 doc25 pm25 cd25 ct25 : Value} {od25 an25 : Option Addr} {sl25 : Array (Option Value)} (a25 : PySem.W.nsIn K mainGlobals "law" = some (some (.ref f25))) (l25 : K.lookup f25 = some ⟨oc25, od25, .func (PySem.W.fnOf "law" "law" (defArgs (top 38)) (defBody (top 38)) (defScope (top 38)) .none kV25 doc25 pm25 an25 cd25 ct25), sl25⟩) (c25 : PySem.W.codeIn K cd25 "law" = true) (k25 : PySem.W.keepIn K (.ref f25) = true)
    (xsp : PySem.W.specialIn K (.builtin "object.__class__") "__get__" = some (some (.builtin "getset_descriptor.__get__")))
    (xtk : PySem.W.takesIn K (.builtin "object.__class__") = some true)
    {xa0 : Addr}
    (xn0 : PySem.W.nsIn K mainGlobals "SheetError" = some (some (.ref xa0)))
    (xs0 : PySem.W.subIn K (.ref xa0) (.type "BaseException") = some true)
    (xt0 : PySem.W.typeIn K (.ref xa0) = some (.type "type"))
    (xk0 : PySem.W.keepIn K (.ref xa0) = true)
    (xc0 : PySem.W.isClsIn K xa0 = true)
    (xh0 : PySem.W.hasDictIn K xa0 = true)
    (xg0 : PySem.W.findIn K (.ref xa0) "__getattribute__" = some (some (.builtin "BaseException.__getattribute__")))
    (xr0 : PySem.W.findIn K (.ref xa0) "__getattr__" = some none)
    (xl0 : PySem.W.findIn K (.ref xa0) "__class__" = some (some (.builtin "object.__class__")))
    (xm0 : PySem.W.mroIn K xa0 (.type "object") = some true)
    {xa1 : Addr}
    (xn1 : PySem.W.nsIn K mainGlobals "NoColumns" = some (some (.ref xa1)))
    (xs1 : PySem.W.subIn K (.ref xa1) (.type "BaseException") = some true)
    (xt1 : PySem.W.typeIn K (.ref xa1) = some (.type "type"))
    (xk1 : PySem.W.keepIn K (.ref xa1) = true)
    (xc1 : PySem.W.isClsIn K xa1 = true)
    (xh1 : PySem.W.hasDictIn K xa1 = true)
    (xg1 : PySem.W.findIn K (.ref xa1) "__getattribute__" = some (some (.builtin "BaseException.__getattribute__")))
    (xr1 : PySem.W.findIn K (.ref xa1) "__getattr__" = some none)
    (xl1 : PySem.W.findIn K (.ref xa1) "__class__" = some (some (.builtin "object.__class__")))
    (xm1 : PySem.W.mroIn K xa1 (.type "object") = some true)
    {xa2 : Addr}
    (xn2 : PySem.W.nsIn K mainGlobals "NoSending" = some (some (.ref xa2)))
    (xs2 : PySem.W.subIn K (.ref xa2) (.type "BaseException") = some true)
    (xt2 : PySem.W.typeIn K (.ref xa2) = some (.type "type"))
    (xk2 : PySem.W.keepIn K (.ref xa2) = true)
    (xc2 : PySem.W.isClsIn K xa2 = true)
    (xh2 : PySem.W.hasDictIn K xa2 = true)
    (xg2 : PySem.W.findIn K (.ref xa2) "__getattribute__" = some (some (.builtin "BaseException.__getattribute__")))
    (xr2 : PySem.W.findIn K (.ref xa2) "__getattr__" = some none)
    (xl2 : PySem.W.findIn K (.ref xa2) "__class__" = some (some (.builtin "object.__class__")))
    (xm2 : PySem.W.mroIn K xa2 (.type "object") = some true)
    {xa3 : Addr}
    (xn3 : PySem.W.nsIn K mainGlobals "NoJoining" = some (some (.ref xa3)))
    (xs3 : PySem.W.subIn K (.ref xa3) (.type "BaseException") = some true)
    (xt3 : PySem.W.typeIn K (.ref xa3) = some (.type "type"))
    (xk3 : PySem.W.keepIn K (.ref xa3) = true)
    (xc3 : PySem.W.isClsIn K xa3 = true)
    (xh3 : PySem.W.hasDictIn K xa3 = true)
    (xg3 : PySem.W.findIn K (.ref xa3) "__getattribute__" = some (some (.builtin "BaseException.__getattribute__")))
    (xr3 : PySem.W.findIn K (.ref xa3) "__getattr__" = some none)
    (xl3 : PySem.W.findIn K (.ref xa3) "__class__" = some (some (.builtin "object.__class__")))
    (xm3 : PySem.W.mroIn K xa3 (.type "object") = some true)
    {nm2 q2 : Str} {N2 : Addr} {bs2 bm2 : List Value} {sn2 : List Str} {sb2 : List Value} {ab2 : Bool} {cl2 : Option Bool} {dd2 : Option Addr} {ma2 mb2 mc2 md2 me2 : Option Value}
    (xo2 : K.lookup xa2 = some (excClassObj nm2 q2 xa2 N2 bs2 bm2 true sn2 sb2 ab2 cl2 dd2 ma2 mb2 mc2 md2 me2 "ValueError.__new__"))
    (xv2 : PySem.HandSPX.refsVE bm2 = true)
    (xd2 : PySem.W.findIn K (.ref xa2) "__setattr__" = some (some (.builtin "object.__setattr__")))
    (xf2_part : PySem.W.findIn K (.ref xa2) "part" = some none)
    {fi2 : Addr} {io2 iv2 ic2 ip2 ie2 it2 : Value} {iq2 iw2 : Option Addr} {iz2 : Array (Option Value)}
    (ya2 : PySem.W.findIn K (.ref xa2) "__init__" = some (some (.ref fi2)))
    (yt2 : PySem.W.typeIn K (.ref fi2) = some (.type "function"))
    (yl2 : K.lookup fi2 = some ⟨io2, iq2, .func (PySem.W.fnOf "__init__" "NoSending.__init__" (defArgs (inClass (top 3) 0)) (defBody (inClass (top 3) 0)) (defScope (inClass (top 3) 0)) .none iv2 ic2 ip2 iw2 ie2 it2), iz2⟩)
    (yc2 : PySem.W.codeIn K ie2 "NoSending.__init__" = true)
    (yk2 : PySem.W.keepIn K (.ref fi2) = true)
    {nm3 q3 : Str} {N3 : Addr} {bs3 bm3 : List Value} {sn3 : List Str} {sb3 : List Value} {ab3 : Bool} {cl3 : Option Bool} {dd3 : Option Addr} {ma3 mb3 mc3 md3 me3 : Option Value}
    (xo3 : K.lookup xa3 = some (excClassObj nm3 q3 xa3 N3 bs3 bm3 true sn3 sb3 ab3 cl3 dd3 ma3 mb3 mc3 md3 me3 "ValueError.__new__"))
    (xv3 : PySem.HandSPX.refsVE bm3 = true)
    (xd3 : PySem.W.findIn K (.ref xa3) "__setattr__" = some (some (.builtin "object.__setattr__")))
    (xf3_part : PySem.W.findIn K (.ref xa3) "part" = some none)
    {fi3 : Addr} {io3 iv3 ic3 ip3 ie3 it3 : Value} {iq3 iw3 : Option Addr} {iz3 : Array (Option Value)}
    (ya3 : PySem.W.findIn K (.ref xa3) "__init__" = some (some (.ref fi3)))
    (yt3 : PySem.W.typeIn K (.ref fi3) = some (.type "function"))
    (yl3 : K.lookup fi3 = some ⟨io3, iq3, .func (PySem.W.fnOf "__init__" "NoJoining.__init__" (defArgs (inClass (top 4) 0)) (defBody (inClass (top 4) 0)) (defScope (inClass (top 4) 0)) .none iv3 ic3 ip3 iw3 ie3 it3), iz3⟩)
    (yc3 : PySem.W.codeIn K ie3 "NoJoining.__init__" = true)
    (yk3 : PySem.W.keepIn K (.ref fi3) = true)
    (xj0_1 : PySem.W.subIn K (.ref xa0) (.ref xa1) = some false)
    (xj1_1 : PySem.W.subIn K (.ref xa1) (.ref xa1) = some true)
    (xj2_1 : PySem.W.subIn K (.ref xa2) (.ref xa1) = some false)
    (xj3_1 : PySem.W.subIn K (.ref xa3) (.ref xa1) = some false)
    (xj0_3 : PySem.W.subIn K (.ref xa0) (.ref xa3) = some false)
    (xj1_3 : PySem.W.subIn K (.ref xa1) (.ref xa3) = some false)
    (xj2_3 : PySem.W.subIn K (.ref xa2) (.ref xa3) = some false)
    (xj3_3 : PySem.W.subIn K (.ref xa3) (.ref xa3) = some true)
    (xj0_2 : PySem.W.subIn K (.ref xa0) (.ref xa2) = some false)
    (xj1_2 : PySem.W.subIn K (.ref xa1) (.ref xa2) = some false)
    (xj2_2 : PySem.W.subIn K (.ref xa2) (.ref xa2) = some true)
    (xj3_2 : PySem.W.subIn K (.ref xa3) (.ref xa2) = some false)
    (xj0_0 : PySem.W.subIn K (.ref xa0) (.ref xa0) = some true)
    (xj1_0 : PySem.W.subIn K (.ref xa1) (.ref xa0) = some true)
    (xj2_0 : PySem.W.subIn K (.ref xa2) (.ref xa0) = some true)
    (xj3_0 : PySem.W.subIn K (.ref xa3) (.ref xa0) = some true)
    (xj0_ValueError : PySem.W.subIn K (.ref xa0) (.type "ValueError") = some true)
    (xj1_ValueError : PySem.W.subIn K (.ref xa1) (.type "ValueError") = some true)
    (xj2_ValueError : PySem.W.subIn K (.ref xa2) (.type "ValueError") = some true)
    (xj3_ValueError : PySem.W.subIn K (.ref xa3) (.type "ValueError") = some true)
    (pg4 : PySem.W.plainGet K oa4 Str.empty = true)
    (ph4 : PySem.W.hasDictIn K oa4 = true)
    (po4 : PySem.W.plainOver K oa4 = true)
    (ps4 : PySem.W.findIn K (.ref oa4) "__setattr__" = some (some (.builtin "object.__setattr__")))
    (pc4 : PySem.W.findIn K (.ref oa4) "__class__" = some (some (.builtin "object.__class__")))
    (pm_4 : PySem.W.mroIn K oa4 (.type "object") = some true)
    (pt4 : PySem.W.typeIn K (.ref oa4) = some (.type "type"))
    (pi4 : PySem.W.isClsIn K oa4 = true)
    (pa4 : PySem.W.makesIn K oa4 = true)
    (pk4 : PySem.W.keepIn K (.ref oa4) = true)
    (pn4 : PySem.W.noSeq K oa4 = true)
    (nf4_held_parts : PySem.W.findIn K (.ref oa4) "held_parts" = some none) :
    ∃ fd : FuncData, (∀ (s : Shared) (u : Value), BindsTo s fd ⟨[u], []⟩ [("_law_script", u)]) ∧ ∀ base : Heap, K.In base → base.Ns mainGlobals mg → FnG P w K mg base (L2.CX P w) 10 fa fd ["_law_script"] (spLaw f_law) := by
  subst hlv
  have T : Txt K mg ⟨K, (fun k => ([xa0, xa1, xa2, xa3, oa4] : List Addr).getD k 0), (fun k => ([[], [], ["part"], ["part"], ["held_parts"]] : List (List Str)).getD k []), fun _ => .non⟩ := ⟨rfl,
    Tr.glob_ktup (c := ⟨K, (fun k => ([xa0, xa1, xa2, xa3, oa4] : List Addr).getD k 0), (fun k => ([[], [], ["part"], ["part"], ["held_parts"]] : List (List Str)).getD k []), fun _ => .non⟩) (zs := ["keep", "clear"]) KX GT g_BLANKS gl_BLANKS (Paired.cons ⟨_, rfl⟩ (Paired.cons ⟨_, rfl⟩ Paired.nil)) (by decide +kernel) (by decide),
    Tr.glob_ktup (c := ⟨K, (fun k => ([xa0, xa1, xa2, xa3, oa4] : List Addr).getD k 0), (fun k => ([[], [], ["part"], ["part"], ["held_parts"]] : List (List Str)).getD k []), fun _ => .non⟩) (zs := ["keep", "drop"]) KX GT g_GONE gl_GONE (Paired.cons ⟨_, rfl⟩ (Paired.cons ⟨_, rfl⟩ Paired.nil)) (by decide +kernel) (by decide),
    Tr.glob_kstr (by decide +kernel) KX GT g_KEY,
    Tr.glob_kstr (by decide +kernel) KX GT g_LETTERS,
    Tr.glob_ktup (c := ⟨K, (fun k => ([xa0, xa1, xa2, xa3, oa4] : List Addr).getD k 0), (fun k => ([[], [], ["part"], ["part"], ["held_parts"]] : List (List Str)).getD k []), fun _ => .non⟩) (zs := ["all", "first", "none", "refuse"]) KX GT g_MANY gl_MANY (Paired.cons ⟨_, rfl⟩ (Paired.cons ⟨_, rfl⟩ (Paired.cons ⟨_, rfl⟩ (Paired.cons ⟨_, rfl⟩ Paired.nil)))) (by decide +kernel) (by decide),
    Tr.glob_ktup (c := ⟨K, (fun k => ([xa0, xa1, xa2, xa3, oa4] : List Addr).getD k 0), (fun k => ([[], [], ["part"], ["part"], ["held_parts"]] : List (List Str)).getD k []), fun _ => .non⟩) (zs := ["skip", "make", "refuse"]) KX GT g_NEW gl_NEW (Paired.cons ⟨_, rfl⟩ (Paired.cons ⟨_, rfl⟩ (Paired.cons ⟨_, rfl⟩ Paired.nil))) (by decide +kernel) (by decide),
    Tr.glob_ktup (c := ⟨K, (fun k => ([xa0, xa1, xa2, xa3, oa4] : List Addr).getD k 0), (fun k => ([[], [], ["part"], ["part"], ["held_parts"]] : List (List Str)).getD k []), fun _ => .non⟩) (zs := ["sent", "all"]) KX GT g_SCOPES gl_SCOPES (Paired.cons ⟨_, rfl⟩ (Paired.cons ⟨_, rfl⟩ Paired.nil)) (by decide +kernel) (by decide),
    PySem.W.mg_none_of KX GT b_ValueError,
    PySem.W.mg_none_of KX GT b_abs,
    PySem.W.mg_none_of KX GT b_all,
    PySem.W.mg_none_of KX GT b_bool,
    PySem.W.mg_none_of KX GT b_int,
    PySem.W.mg_none_of KX GT b_isinstance,
    PySem.W.mg_none_of KX GT b_len,
    PySem.W.mg_none_of KX GT b_list,
    PySem.W.mg_none_of KX GT b_max,
    PySem.W.mg_none_of KX GT b_min,
    PySem.W.mg_none_of KX GT b_range,
    PySem.W.mg_none_of KX GT b_set,
    PySem.W.mg_none_of KX GT b_str,
    PySem.W.mg_none_of KX GT b_tuple,
    Tr.mkMeth (c := ⟨K, (fun k => ([xa0, xa1, xa2, xa3, oa4] : List Addr).getD k 0), (fun k => ([[], [], ["part"], ["part"], ["held_parts"]] : List (List Str)).getD k []), fun _ => .non⟩) (k := 4) (h := h) a0 i0 j0 l0 c0 k0 (fun _ _ _ _ _ _ us hl => match us, hl with | [_], _ => rfl),
    Tr.mkDef KX GT a1 l1 c1 k1 (fun _ _ _ _ _ _ us hl => match us, hl with | [_, _], _ => rfl),
    Tr.mkDef KX GT a2 l2 c2 k2 (fun _ _ _ _ _ _ us hl => match us, hl with | [_, _], _ => rfl),
    Tr.mkDef KX GT a3 l3 c3 k3 (fun _ _ _ _ _ _ us hl => match us, hl with | [_, _], _ => rfl),
    Tr.mkDef KX GT a4 l4 c4 k4 (fun _ _ _ _ _ _ us hl => match us, hl with | [_, _, _], _ => rfl),
    Tr.mkDef KX GT a5 l5 c5 k5 (fun _ _ _ _ _ _ us hl => match us, hl with | [_, _, _], _ => rfl),
    Tr.mkDef KX GT a6 l6 c6 k6 (fun _ _ _ _ _ _ us hl => match us, hl with | [_, _], _ => rfl),
    Tr.mkDef KX GT a7 l7 c7 k7 (fun _ _ _ _ _ _ us hl => match us, hl with | [_], _ => rfl),
    Tr.mkDef KX GT a8 l8 c8 k8 (fun _ _ _ _ _ _ us hl => match us, hl with | [_], _ => rfl),
    Tr.mkDef KX GT a9 l9 c9 k9 (fun _ _ _ _ _ _ us hl => match us, hl with | [_, _, _], _ => rfl),
    Tr.mkDef KX GT a10 l10 c10 k10 (fun _ _ _ _ _ _ us hl => match us, hl with | [_, _], _ => rfl),
    Tr.mkDef KX GT a11 l11 c11 k11 (fun _ _ _ _ _ _ us hl => match us, hl with | [_, _], _ => rfl),
    Tr.mkDef KX GT a12 l12 c12 k12 (fun _ _ _ _ _ _ us hl => match us, hl with | [_], _ => rfl),
    Tr.mkDef KX GT a13 l13 c13 k13 (fun _ _ _ _ _ _ us hl => match us, hl with | [_], _ => rfl),
    Tr.mkDef KX GT a14 l14 c14 k14 (fun _ _ _ _ _ _ us hl => match us, hl with | [_], _ => rfl),
    Tr.mkDef KX GT a15 l15 c15 k15 (fun _ _ _ _ _ _ us hl => match us, hl with | [_], _ => rfl),
    Tr.mkDef KX GT a16 l16 c16 k16 (fun _ _ _ _ _ _ us hl => match us, hl with | [_, _], _ => rfl),
    Tr.mkDef KX GT a17 l17 c17 k17 (fun _ _ _ _ _ _ us hl => match us, hl with | [_], _ => rfl),
    Tr.mkDef KX GT a18 l18 c18 k18 (fun _ _ _ _ _ _ us hl => match us, hl with | [_, _, _, _, _, _, _], _ => rfl),
    Tr.mkMethD (c := ⟨K, (fun k => ([xa0, xa1, xa2, xa3, oa4] : List Addr).getD k 0), (fun k => ([[], [], ["part"], ["part"], ["held_parts"]] : List (List Str)).getD k []), fun _ => .non⟩) (k := 4) a19 i19 j19 l19 c19 k19 (Tr.dflV (dvs := [.str "refuse", .str "refuse", .str "keep", .ref te19_3, .str "sent"]) dl19 (.cons ⟨_, rfl⟩ (.cons ⟨_, rfl⟩ (.cons ⟨_, rfl⟩ (.cons rfl (.cons ⟨_, rfl⟩ .nil))))) (by simp)) (by simp) (Tr.dfok_cons (Tr.df_str (by decide +kernel)) (Tr.dfok_cons (Tr.df_str (by decide +kernel)) (Tr.dfok_cons (Tr.df_str (by decide +kernel)) (Tr.dfok_cons (Tr.df_tup0 de19_3) (Tr.dfok_cons (Tr.df_str (by decide +kernel)) Tr.dfok_nil))))),
    Tr.mkDef KX GT a20 l20 c20 k20 (fun _ _ _ _ _ _ us hl => match us, hl with | [_], _ => rfl),
    Tr.mkDef KX GT a21 l21 c21 k21 (fun _ _ _ _ _ _ us hl => match us, hl with | [_], _ => rfl),
    Tr.mkDef KX GT a22 l22 c22 k22 (fun _ _ _ _ _ _ us hl => match us, hl with | [_, _], _ => rfl),
    Tr.mkMeth (c := ⟨K, (fun k => ([xa0, xa1, xa2, xa3, oa4] : List Addr).getD k 0), (fun k => ([[], [], ["part"], ["part"], ["held_parts"]] : List (List Str)).getD k []), fun _ => .non⟩) (k := 4) (h := h) a23 i23 j23 l23 c23 k23 (fun _ _ _ _ _ _ us hl => match us, hl with | [_, _], _ => rfl),
    Tr.mkDef KX GT a24 l24 c24 k24 (fun _ _ _ _ _ _ us hl => match us, hl with | [_], _ => rfl),
    Tr.mkDef KX GT a25 l25 c25 k25 (fun _ _ _ _ _ _ us hl => match us, hl with | [_], _ => rfl),
    ⟨xsp, xtk⟩,
    ⟨PySem.W.mg_of KX GT xn0, xs0, xt0, xk0, xc0, xh0, xg0, xr0, xl0, xm0⟩,
    ⟨PySem.W.mg_of KX GT xn1, xs1, xt1, xk1, xc1, xh1, xg1, xr1, xl1, xm1⟩,
    ⟨PySem.W.mg_of KX GT xn2, xs2, xt2, xk2, xc2, xh2, xg2, xr2, xl2, xm2⟩,
    ⟨PySem.W.mg_of KX GT xn3, xs3, xt3, xk3, xc3, xh3, xg3, xr3, xl3, xm3⟩,
    (fun j hj => by
      match j, hj with
      | 0, _ => exact ⟨_, (⟨PySem.W.mg_of KX GT xn0, xs0, xt0, xk0, xc0, xh0, xg0, xr0, xl0, xm0⟩ : XT K mg ⟨K, (fun k => ([xa0, xa1, xa2, xa3, oa4] : List Addr).getD k 0), (fun k => ([[], [], ["part"], ["part"], ["held_parts"]] : List (List Str)).getD k []), fun _ => .non⟩ 0 "SheetError")⟩
      | 1, _ => exact ⟨_, (⟨PySem.W.mg_of KX GT xn1, xs1, xt1, xk1, xc1, xh1, xg1, xr1, xl1, xm1⟩ : XT K mg ⟨K, (fun k => ([xa0, xa1, xa2, xa3, oa4] : List Addr).getD k 0), (fun k => ([[], [], ["part"], ["part"], ["held_parts"]] : List (List Str)).getD k []), fun _ => .non⟩ 1 "NoColumns")⟩
      | 2, _ => exact ⟨_, (⟨PySem.W.mg_of KX GT xn2, xs2, xt2, xk2, xc2, xh2, xg2, xr2, xl2, xm2⟩ : XT K mg ⟨K, (fun k => ([xa0, xa1, xa2, xa3, oa4] : List Addr).getD k 0), (fun k => ([[], [], ["part"], ["part"], ["held_parts"]] : List (List Str)).getD k []), fun _ => .non⟩ 2 "NoSending")⟩
      | 3, _ => exact ⟨_, (⟨PySem.W.mg_of KX GT xn3, xs3, xt3, xk3, xc3, xh3, xg3, xr3, xl3, xm3⟩ : XT K mg ⟨K, (fun k => ([xa0, xa1, xa2, xa3, oa4] : List Addr).getD k 0), (fun k => ([[], [], ["part"], ["part"], ["held_parts"]] : List (List Str)).getD k []), fun _ => .non⟩ 3 "NoJoining")⟩
      | z + 4, h => omega),
    rfl,
    ⟨⟨_, _, _, _, _, _, _, _, _, _, _, _, _, _, _, xo2, xv2⟩, xd2, xs2, xt2, xk2⟩,
    xf2_part,
    ⟨fi2, _, ya2, yt2, fun_mk yl2 yc2 yk2, (fun_mk (st := (inClass (top 3) 0)) yl2 yc2 yk2).binds fun _ _ _ _ _ _ us hl => match us, hl with | [_, _], _ => rfl⟩,
    rfl,
    ⟨⟨_, _, _, _, _, _, _, _, _, _, _, _, _, _, _, xo3, xv3⟩, xd3, xs3, xt3, xk3⟩,
    xf3_part,
    ⟨fi3, _, ya3, yt3, fun_mk yl3 yc3 yk3, (fun_mk (st := (inClass (top 4) 0)) yl3 yc3 yk3).binds fun _ _ _ _ _ _ us hl => match us, hl with | [_, _], _ => rfl⟩,
    (fun j hj => by
      match j, hj with
      | 0, _ => exact xj0_1
      | 1, _ => exact xj1_1
      | 2, _ => exact xj2_1
      | 3, _ => exact xj3_1
      | z + 4, h => omega),
    (fun j hj => by
      match j, hj with
      | 0, _ => exact xj0_3
      | 1, _ => exact xj1_3
      | 2, _ => exact xj2_3
      | 3, _ => exact xj3_3
      | z + 4, h => omega),
    (fun j hj => by
      match j, hj with
      | 0, _ => exact xj0_2
      | 1, _ => exact xj1_2
      | 2, _ => exact xj2_2
      | 3, _ => exact xj3_2
      | z + 4, h => omega),
    (fun j hj => by
      match j, hj with
      | 0, _ => exact xj0_0
      | 1, _ => exact xj1_0
      | 2, _ => exact xj2_0
      | 3, _ => exact xj3_0
      | z + 4, h => omega),
    (fun j hj => by
      match j, hj with
      | 0, _ => exact xj0_ValueError
      | 1, _ => exact xj1_ValueError
      | 2, _ => exact xj2_ValueError
      | 3, _ => exact xj3_ValueError
      | z + 4, h => omega),
    (Tr.tgs_cons (k := 4) ⟨_, (⟨PySem.W.mg_of KX GT on4, ⟨pg4, ph4, po4, ps4⟩, pc4, pm_4, pt4, pi4⟩ : CT K mg ⟨K, (fun k => ([xa0, xa1, xa2, xa3, oa4] : List Addr).getD k 0), (fun k => ([[], [], ["part"], ["part"], ["held_parts"]] : List (List Str)).getD k []), fun _ => .non⟩ 4 "Joining")⟩ Tr.tgs_nil),
    ⟨PySem.W.mg_of KX GT on4, ⟨pg4, ph4, po4, ps4⟩, pc4, pm_4, pt4, pi4⟩,
    rfl,
    pa4,
    pk4,
    pn4,
    (Tr.tgs_cons (k := 4) (Tr.nf_same _ _) Tr.tgs_nil),
    (Tr.tgs_cons (k := 4) (Tr.kit_same _ _) Tr.tgs_nil),
    (Tr.fdok_cons (k := 4) (fs := ["held_parts"]) ⟨pg4, ph4, po4, ps4⟩ nf4_held_parts rfl rfl (by decide) (by decide) Tr.fdok_nil)⟩
  obtain ⟨fd, hb, hF⟩ := Tr.def_head hfa T.d_law (fun _ _ _ _ _ _ _ => rfl) fun base => ok_law (P := P) (w := w) (base := base) T
  exact ⟨fd, hb, fun base h1 h2 => (hF base h1 h2).law⟩
end Law
open PySem PySem.W PyProof.Rows
set_option maxRecDepth 100000 in
set_option maxHeartbeats 0 in
theorem PySem.Challenge.cw_sheetback_k22_joinings_refused_holds : PySem.Challenge.rw_sheetback_k22_joinings_refused.Holds := by
  refine Law.headed ?_; unfold Law.HC Law.hk
  k_fill
  refine Tr.walkG (l := PySem.Challenge.rw_sheetback_k22_joinings_refused) (k := 10) (x := "_law_script") (sp := fun _ => Tr.spLaw Law.f_law) rfl (by decide) rfl ?hr (fun w h Y => PySem.W.kIn_of Y) ?hL ?F ?hsp
  case hr => exact ⟨rfl, by decide, by decide⟩
  case hL => intro w; first | rfl | kernel_rfl
  case hsp => exact fun w H a ns hl hb ho => ⟨a, ns, rfl, ho, Nat.le_trans hl (by decide), Law.law_true ns hl hb, fun _ _ h => h⟩
  case F =>
    intro w s₀ mg mb fa h G KX hmg
    refine' Law.all_mk KX G.T.g (And.right G.X) rfl hmg ?g_BLANKS ?gl_BLANKS ?g_GONE ?gl_GONE ?g_KEY ?g_LETTERS ?g_MANY ?gl_MANY ?g_NEW ?gl_NEW ?g_SCOPES ?gl_SCOPES ?b_ValueError ?b_abs ?b_all ?b_bool ?b_int ?b_isinstance ?b_len ?b_list ?b_max ?b_min ?b_range ?b_set ?b_str ?b_tuple ?on4 ?a0 ?i0 ?j0 ?l0 ?c0 ?k0 ?a1 ?l1 ?c1 ?k1 ?a2 ?l2 ?c2 ?k2 ?a3 ?l3 ?c3 ?k3 ?a4 ?l4 ?c4 ?k4 ?a5 ?l5 ?c5 ?k5 ?a6 ?l6 ?c6 ?k6 ?a7 ?l7 ?c7 ?k7 ?a8 ?l8 ?c8 ?k8 ?a9 ?l9 ?c9 ?k9 ?a10 ?l10 ?c10 ?k10 ?a11 ?l11 ?c11 ?k11 ?a12 ?l12 ?c12 ?k12 ?a13 ?l13 ?c13 ?k13 ?a14 ?l14 ?c14 ?k14 ?a15 ?l15 ?c15 ?k15 ?a16 ?l16 ?c16 ?k16 ?a17 ?l17 ?c17 ?k17 ?a18 ?l18 ?c18 ?k18 ?a19 ?i19 ?j19 ?l19 ?c19 ?k19 ?dl19 ?de19_3 ?a20 ?l20 ?c20 ?k20 ?a21 ?l21 ?c21 ?k21 ?a22 ?l22 ?c22 ?k22 ?a23 ?i23 ?j23 ?l23 ?c23 ?k23 ?a24 ?l24 ?c24 ?k24 ?a25 ?l25 ?c25 ?k25 ?xsp ?xtk ?xn0 ?xs0 ?xt0 ?xk0 ?xc0 ?xh0 ?xg0 ?xr0 ?xl0 ?xm0 ?xn1 ?xs1 ?xt1 ?xk1 ?xc1 ?xh1 ?xg1 ?xr1 ?xl1 ?xm1 ?xn2 ?xs2 ?xt2 ?xk2 ?xc2 ?xh2 ?xg2 ?xr2 ?xl2 ?xm2 ?xn3 ?xs3 ?xt3 ?xk3 ?xc3 ?xh3 ?xg3 ?xr3 ?xl3 ?xm3 ?xo2 ?xv2 ?xd2 ?xf2_part ?ya2 ?yt2 ?yl2 ?yc2 ?yk2 ?xo3 ?xv3 ?xd3 ?xf3_part ?ya3 ?yt3 ?yl3 ?yc3 ?yk3 ?xj0_1 ?xj1_1 ?xj2_1 ?xj3_1 ?xj0_3 ?xj1_3 ?xj2_3 ?xj3_3 ?xj0_2 ?xj1_2 ?xj2_2 ?xj3_2 ?xj0_0 ?xj1_0 ?xj2_0 ?xj3_0 ?xj0_ValueError ?xj1_ValueError ?xj2_ValueError ?xj3_ValueError ?pg4 ?ph4 ?po4 ?ps4 ?pc4 ?pm_4 ?pt4 ?pi4 ?pa4 ?pk4 ?pn4 ?nf4_held_parts
    (case g_BLANKS => k_is)
    (case gl_BLANKS => k_is)
    (case g_GONE => k_is)
    (case gl_GONE => k_is)
    (case g_KEY => k_is)
    (case g_LETTERS => k_is)
    (case g_MANY => k_is)
    (case gl_MANY => k_is)
    (case g_NEW => k_is)
    (case gl_NEW => k_is)
    (case g_SCOPES => k_is)
    (case gl_SCOPES => k_is)
    (case b_ValueError => k_is)
    (case b_abs => k_is)
    (case b_all => k_is)
    (case b_bool => k_is)
    (case b_int => k_is)
    (case b_isinstance => k_is)
    (case b_len => k_is)
    (case b_list => k_is)
    (case b_max => k_is)
    (case b_min => k_is)
    (case b_range => k_is)
    (case b_set => k_is)
    (case b_str => k_is)
    (case b_tuple => k_is)
    (case on4 => k_is)
    (case a0 => k_is)
    (case i0 => k_is)
    (case j0 => k_is)
    (case l0 => k_is)
    (case c0 => k_is)
    (case k0 => k_is)
    (case a1 => k_is)
    (case l1 => k_is)
    (case c1 => k_is)
    (case k1 => k_is)
    (case a2 => k_is)
    (case l2 => k_is)
    (case c2 => k_is)
    (case k2 => k_is)
    (case a3 => k_is)
    (case l3 => k_is)
    (case c3 => k_is)
    (case k3 => k_is)
    (case a4 => k_is)
    (case l4 => k_is)
    (case c4 => k_is)
    (case k4 => k_is)
    (case a5 => k_is)
    (case l5 => k_is)
    (case c5 => k_is)
    (case k5 => k_is)
    (case a6 => k_is)
    (case l6 => k_is)
    (case c6 => k_is)
    (case k6 => k_is)
    (case a7 => k_is)
    (case l7 => k_is)
    (case c7 => k_is)
    (case k7 => k_is)
    (case a8 => k_is)
    (case l8 => k_is)
    (case c8 => k_is)
    (case k8 => k_is)
    (case a9 => k_is)
    (case l9 => k_is)
    (case c9 => k_is)
    (case k9 => k_is)
    (case a10 => k_is)
    (case l10 => k_is)
    (case c10 => k_is)
    (case k10 => k_is)
    (case a11 => k_is)
    (case l11 => k_is)
    (case c11 => k_is)
    (case k11 => k_is)
    (case a12 => k_is)
    (case l12 => k_is)
    (case c12 => k_is)
    (case k12 => k_is)
    (case a13 => k_is)
    (case l13 => k_is)
    (case c13 => k_is)
    (case k13 => k_is)
    (case a14 => k_is)
    (case l14 => k_is)
    (case c14 => k_is)
    (case k14 => k_is)
    (case a15 => k_is)
    (case l15 => k_is)
    (case c15 => k_is)
    (case k15 => k_is)
    (case a16 => k_is)
    (case l16 => k_is)
    (case c16 => k_is)
    (case k16 => k_is)
    (case a17 => k_is)
    (case l17 => k_is)
    (case c17 => k_is)
    (case k17 => k_is)
    (case a18 => k_is)
    (case l18 => k_is)
    (case c18 => k_is)
    (case k18 => k_is)
    (case a19 => k_is)
    (case i19 => k_is)
    (case j19 => k_is)
    (case l19 => k_is)
    (case c19 => k_is)
    (case k19 => k_is)
    (case dl19 => k_is)
    (case de19_3 => k_is)
    (case a20 => k_is)
    (case l20 => k_is)
    (case c20 => k_is)
    (case k20 => k_is)
    (case a21 => k_is)
    (case l21 => k_is)
    (case c21 => k_is)
    (case k21 => k_is)
    (case a22 => k_is)
    (case l22 => k_is)
    (case c22 => k_is)
    (case k22 => k_is)
    (case a23 => k_is)
    (case i23 => k_is)
    (case j23 => k_is)
    (case l23 => k_is)
    (case c23 => k_is)
    (case k23 => k_is)
    (case a24 => k_is)
    (case l24 => k_is)
    (case c24 => k_is)
    (case k24 => k_is)
    (case a25 => k_is)
    (case l25 => k_is)
    (case c25 => k_is)
    (case k25 => k_is)
    (case xsp => k_is)
    (case xtk => k_is)
    (case xn0 => k_is)
    (case xs0 => k_is)
    (case xt0 => k_is)
    (case xk0 => k_is)
    (case xc0 => k_is)
    (case xh0 => k_is)
    (case xg0 => k_is)
    (case xr0 => k_is)
    (case xl0 => k_is)
    (case xm0 => k_is)
    (case xn1 => k_is)
    (case xs1 => k_is)
    (case xt1 => k_is)
    (case xk1 => k_is)
    (case xc1 => k_is)
    (case xh1 => k_is)
    (case xg1 => k_is)
    (case xr1 => k_is)
    (case xl1 => k_is)
    (case xm1 => k_is)
    (case xn2 => k_is)
    (case xs2 => k_is)
    (case xt2 => k_is)
    (case xk2 => k_is)
    (case xc2 => k_is)
    (case xh2 => k_is)
    (case xg2 => k_is)
    (case xr2 => k_is)
    (case xl2 => k_is)
    (case xm2 => k_is)
    (case xn3 => k_is)
    (case xs3 => k_is)
    (case xt3 => k_is)
    (case xk3 => k_is)
    (case xc3 => k_is)
    (case xh3 => k_is)
    (case xg3 => k_is)
    (case xr3 => k_is)
    (case xl3 => k_is)
    (case xm3 => k_is)
    (case xo2 => k_is)
    (case xv2 => decide +kernel)
    (case xd2 => k_is)
    (case xf2_part => k_is)
    (case ya2 => k_is)
    (case yt2 => k_is)
    (case yl2 => k_is)
    (case yc2 => k_is)
    (case yk2 => k_is)
    (case xo3 => k_is)
    (case xv3 => decide +kernel)
    (case xd3 => k_is)
    (case xf3_part => k_is)
    (case ya3 => k_is)
    (case yt3 => k_is)
    (case yl3 => k_is)
    (case yc3 => k_is)
    (case yk3 => k_is)
    (case xj0_1 => k_is)
    (case xj1_1 => k_is)
    (case xj2_1 => k_is)
    (case xj3_1 => k_is)
    (case xj0_3 => k_is)
    (case xj1_3 => k_is)
    (case xj2_3 => k_is)
    (case xj3_3 => k_is)
    (case xj0_2 => k_is)
    (case xj1_2 => k_is)
    (case xj2_2 => k_is)
    (case xj3_2 => k_is)
    (case xj0_0 => k_is)
    (case xj1_0 => k_is)
    (case xj2_0 => k_is)
    (case xj3_0 => k_is)
    (case xj0_ValueError => k_is)
    (case xj1_ValueError => k_is)
    (case xj2_ValueError => k_is)
    (case xj3_ValueError => k_is)
    (case pg4 => k_is)
    (case ph4 => k_is)
    (case po4 => k_is)
    (case ps4 => k_is)
    (case pc4 => k_is)
    (case pm_4 => k_is)
    (case pt4 => k_is)
    (case pi4 => k_is)
    (case pa4 => k_is)
    (case pk4 => k_is)
    (case pn4 => k_is)
    (case nf4_held_parts => k_is)
