import PyProof.Rows.All
import Wide.All
import OpenK.AllK
import Wide.FinOn
import HandS.ForMost
import HandS.ForExc
import HandS.Evl
import HandS.TupLe
import HandS.Walk
import HandS.ExcCtx
import HandS.IsInst
import HandS.Wide
import PyProof.LongRange
import HandS.Conv
import HandS.Deep
import HandS.ExcIs
import HandS.ExcOwn
import HandS.ExcField
import HandS.TryOnly
import HandS.Small
import HandS.HotCalls
import HandS.SuiteRaise
import HandS.ExcInit
import HandS.ExcInitHot
import KE.KExcIs
import PyProof.ExcBaseAll.ValueError
import HandS.New0
import HandS.Defaults
import HandS.Codes
import HandS.Iter
import PyProof.StrOps2
import KE.BitLaws
import HandS.Strs
import HandS.SetFor
import HandS.DeepEq
import HandS.IterVal
import HandS.Text
import PyProof.EqKinds
import PyProof.FactsAll.dict_1
import KE.OsRunLaw
import PySem.Challenge.RW_fivefields_k38_marks_refused
set_option Elab.async false
set_option linter.all false
set_option maxRecDepth 100000
namespace W38
open PySem PySem.Spec L2
def tpS (p : Program) (i : Nat) : Stmt := p.main.body.getD i (.Pass ⟨0, 0, 0, 0⟩)
end W38
section
namespace W38H
open PySem PySem.W PySem.Spec L2 W38
def cs (l : List Nat) : Str := ⟨⟨l⟩⟩
def de (P : Params) (k : Str) (t : Nat) (v : Value) : DictEntry := ⟨PyData.keyHash P k, .str k t, v⟩
def k2 (p : Program) (P : Params) : Obj := ⟨.none, none, (.dict [].toArray 0), #[]⟩
def k3 (p : Program) (P : Params) : Obj := ⟨(.type "dict"), none, (.dict [de P (cs [95, 95, 110, 97, 109, 101, 95, 95]) 165 (.str (cs [108, 97, 119, 95, 102, 105, 118, 101, 102, 105, 101, 108, 100, 115, 95, 107, 51, 56, 95, 109, 97, 114, 107, 115, 95, 114, 101, 102, 117, 115, 101, 100]) 863), de P (cs [95, 95, 100, 111, 99, 95, 95]) 166 .none, de P (cs [95, 95, 112, 97, 99, 107, 97, 103, 101, 95, 95]) 167 .none, de P (cs [95, 95, 108, 111, 97, 100, 101, 114, 95, 95]) 168 (.builtin "__main__.__loader__#opaque"), de P (cs [95, 95, 115, 112, 101, 99, 95, 95]) 169 .none, de P (cs [95, 95, 97, 110, 110, 111, 116, 97, 116, 105, 111, 110, 115, 95, 95]) 170 (.ref 6), de P (cs [95, 95, 98, 117, 105, 108, 116, 105, 110, 115, 95, 95]) 171 (.ref 4), de P (cs [95, 95, 102, 105, 108, 101, 95, 95]) 173 (.str (cs [47, 99, 108, 97, 105, 109, 47, 99, 117, 116, 46, 112, 121]) 172), de P (cs [95, 95, 99, 97, 99, 104, 101, 100, 95, 95]) 174 .none, de P (cs [95, 119, 97, 108, 108]) 193 (.ref 21), de P (cs [70, 105, 101, 108, 100, 69, 114, 114, 111, 114]) 213 (.ref 31), de P (cs [78, 111, 68, 97, 121]) 229 (.ref 44), de P (cs [78, 111, 77, 111, 109, 101, 110, 116]) 245 (.ref 56), de P (cs [78, 111, 70, 105, 101, 108, 100]) 270 (.ref 75), de P (cs [78, 111, 82, 111, 119]) 295 (.ref 94), de P (cs [78, 111, 66, 111, 111, 107]) 311 (.ref 106), de P (cs [78, 111, 67, 108, 111, 99, 107]) 327 (.ref 118), de P (cs [78, 111, 78, 97, 109, 101]) 352 (.ref 137), de P (cs [78, 111, 87, 111, 114, 100]) 368 (.ref 149), de P (cs [70, 73, 71, 85, 82, 69, 83, 95, 119, 104, 111, 108, 101, 115]) 372 (.str (cs [48, 49, 50, 51, 52, 53, 54, 55, 56, 57]) 371), de P (cs [111, 110, 108, 121, 95, 102, 105, 103, 117, 114, 101, 115]) 380 (.ref 158), de P (cs [77, 79, 83, 84, 95, 83, 73, 71, 78, 83, 95, 102, 105, 101, 108, 100, 115]) 384 (.int (300) 383), de P (cs [77, 79, 83, 84, 95, 73, 84, 69, 77, 83, 95, 102, 105, 101, 108, 100, 115]) 386 (.int (40) 385), de P (cs [77, 79, 83, 84, 95, 83, 84, 82, 73, 68, 69]) 388 (.int (99) 387), de P (cs [109, 97, 115, 107, 95, 111, 102]) 397 (.ref 165), de P (cs [110, 117, 109, 98, 101, 114, 95, 105, 110]) 403 (.ref 456), de P (cs [110, 117, 109, 98, 101, 114, 95, 105, 110, 95, 102, 105, 101, 108, 100, 115]) 404 (.ref 170), de P (cs [115, 112, 97, 110, 95, 105, 110]) 410 (.ref 175), de P (cs [105, 116, 101, 109, 95, 109, 97, 115, 107]) 422 (.ref 182), de P (cs [114, 101, 97, 100, 95, 102, 105, 101, 108, 100]) 436 (.ref 189), de P (cs [70, 73, 71, 85, 82, 69, 83, 95, 109, 97, 114, 107, 115]) 440 (.str (cs [48, 49, 50, 51, 52, 53, 54, 55, 56, 57]) 439), de P (cs [77, 79, 83, 84, 95, 83, 73, 71, 78, 83, 95, 109, 97, 114, 107, 115]) 442 (.int (300) 441), de P (cs [77, 79, 83, 84, 95, 73, 84, 69, 77, 83, 95, 109, 97, 114, 107, 115]) 444 (.int (40) 443), de P (cs [77, 79, 83, 84, 95, 77, 65, 82, 75, 83]) 446 (.int (20) 445), de P (cs [83, 85, 78, 68, 65, 89]) 448 (.int (0) 447), de P (cs [83, 65, 84, 85, 82, 68, 65, 89]) 450 (.int (6) 449), de P (cs [119, 101, 101, 107, 100, 97, 121, 95, 105, 110]) 458 (.ref 196), de P (cs [77, 97, 114, 107]) 494 (.ref 220), de P (cs [78, 117, 109, 98, 101, 114, 115]) 535 (.ref 255), de P (cs [76, 97, 115, 116]) 577 (.ref 289), de P (cs [78, 101, 97, 114]) 620 (.ref 322), de P (cs [76, 97, 115, 116, 87, 111, 114, 107]) 653 (.ref 348), de P (cs [87, 101, 101, 107, 100, 97, 121, 115]) 696 (.ref 381), de P (cs [78, 116, 104]) 740 (.ref 414), de P (cs [76, 97, 115, 116, 79, 110, 101]) 781 (.ref 447), de P (cs [110, 117, 109, 98, 101, 114, 95, 105, 110, 95, 109, 97, 114, 107, 115]) 793 (.ref 456), de P (cs [100, 97, 121, 95, 109, 97, 114, 107]) 801 (.ref 463), de P (cs [119, 101, 101, 107, 100, 97, 121, 95, 109, 97, 114, 107]) 811 (.ref 470), de P (cs [105, 116, 101, 109, 115, 95, 111, 102]) 818 (.ref 477), de P (cs [112, 108, 97, 105, 110, 95, 105, 116, 101, 109]) 829 (.ref 484), de P (cs [114, 101, 97, 100, 95, 105, 116, 101, 109, 115]) 844 (.ref 491), de P (cs [114, 101, 97, 100, 95, 100, 97, 121, 115]) 853 (.ref 498), de P (cs [114, 101, 97, 100, 95, 119, 101, 101, 107, 100, 97, 121, 115]) 862 (.ref 505), de P (cs [95, 108, 97, 119, 95, 99, 101, 108, 108, 95, 97, 116]) 872 (.ref 512), de P (cs [95, 108, 97, 119, 95, 115, 116, 105, 114]) 881 (.ref 519), de P (cs [95, 108, 97, 119, 95, 100, 105, 103, 105, 116, 115]) 892 (.ref 526), de P (cs [95, 108, 97, 119, 95, 119, 104, 111, 108, 101]) 899 (.ref 533), de P (cs [95, 108, 97, 119, 95, 114, 105, 103, 104, 116]) 908 (.ref 540), de P (cs [95, 108, 97, 119, 95, 119, 114, 111, 110, 103]) 918 (.ref 547), de P (cs [95, 108, 97, 119, 95, 105, 116, 101, 109, 115]) 934 (.ref 554), de P (cs [95, 108, 97, 119, 95, 105, 115, 95, 109, 97, 114, 107]) 941 (.ref 561), de P (cs [95, 108, 97, 119, 95, 100, 117, 101]) 947 (.ref 566), de P (cs [95, 108, 97, 119, 95, 116, 111, 108, 100]) 957 (.ref 573), de P (cs [95, 108, 97, 119, 95, 108, 111, 110, 103, 101, 115, 116]) 965 (.ref 580), de P (cs [108, 97, 119]) 971 (.ref 585)].toArray 65), #[]⟩
def k15 (p : Program) (P : Params) : Obj := ⟨(.type "tuple"), none, (.seq #[] 0), #[]⟩
def k17 (p : Program) (P : Params) : Obj := ⟨(.type "tuple"), none, (.seq #[(.str (cs [107]) 190)] 0), #[]⟩
def k18 (p : Program) (P : Params) : Obj := ⟨(.type "tuple"), none, (.seq #[] 0), #[]⟩
def k20 (p : Program) (P : Params) : Obj := ⟨(.type "code"), none, (.fields #[(.str (cs [95, 119, 97, 108, 108]) 187), (.str (cs [95, 119, 97, 108, 108]) 188), (.str (cs [47, 99, 108, 97, 105, 109, 47, 99, 117, 116, 46, 112, 121]) 189), (.int (1) 0), (.int (1) 0), (.int (0) 0), (.int (0) 0), (.int (3) 0), (.ref 15), (.bool true), (.int (181) 0), (.ref 16), .none, (.ref 17), (.ref 18), (.ref 19), (.int (191) 0), (.int (1) 0), (.str (cs [47, 99, 108, 97, 105, 109, 47, 99, 117, 116, 46, 112, 121]) 192)]), #[]⟩
def k21 (p : Program) (P : Params) : Obj := ⟨(.type "function"), none, (.func (fnOf "_wall" "_wall" (defArgs (tpS p 0)) (defBody (tpS p 0)) (defScope (tpS p 0)) .none .none .none (.str (cs [95, 95, 109, 97, 105, 110, 95, 95]) 164) none (.ref 20) .none)), #[]⟩
def k22 (p : Program) (P : Params) : Obj := ⟨(.type "tuple"), none, (.seq #[(.type "ValueError")] 0), #[]⟩
def k29 (p : Program) (P : Params) : Obj := ⟨(.type "tuple"), none, (.seq #[] 0), #[]⟩
def k30 (p : Program) (P : Params) : Obj := ⟨(.type "dict"), none, (.dict [de P (cs [95, 95, 109, 111, 100, 117, 108, 101, 95, 95]) 203 (.str (cs [102, 105, 118, 101, 102, 105, 101, 108, 100, 115, 46, 101, 114, 114, 111, 114, 115]) 194), de P (cs [95, 95, 102, 105, 114, 115, 116, 108, 105, 110, 101, 110, 111, 95, 95]) 207 (.int (5) 206), de P (cs [95, 95, 115, 116, 97, 116, 105, 99, 95, 97, 116, 116, 114, 105, 98, 117, 116, 101, 115, 95, 95]) 208 (.ref 29), de P (cs [95, 95, 119, 101, 97, 107, 114, 101, 102, 95, 95]) 210 (.ref 32), de P (cs [95, 95, 100, 111, 99, 95, 95]) 211 .none].toArray 3), #[]⟩
def k31 (p : Program) (P : Params) : Obj := ⟨(.type "type"), none, (.cls { name := (cs [70, 105, 101, 108, 100, 69, 114, 114, 111, 114]), bases := [(.type "ValueError")], mro := [(.ref 31), (.type "ValueError"), (.type "Exception"), (.type "BaseException"), (.type "object")], ns := 30, qualname := (cs [70, 105, 101, 108, 100, 69, 114, 114, 111, 114]), hasDict := true, slotNames := [], subclasses := [(.ref 44), (.ref 56), (.ref 75), (.ref 94), (.ref 106), (.ref 118), (.ref 137), (.ref 149)], abstract := false, collection := none, hasDel := false }), #[(some (.ref 22)), none, (some (.str (cs [70, 105, 101, 108, 100, 69, 114, 114, 111, 114]) 196)), (some (.str (cs [70, 105, 101, 108, 100, 69, 114, 114, 111, 114]) 204)), (some (.builtin "ValueError.__new__")), (some (.bool true))]⟩
def k32 (p : Program) (P : Params) : Obj := ⟨(.type "getset_descriptor"), none, (.fields #[(.str (cs [95, 95, 119, 101, 97, 107, 114, 101, 102, 95, 95]) 209), (.ref 31), (.builtin "ExceptionGroup.__weakref__"), .none]), #[]⟩
def k35 (p : Program) (P : Params) : Obj := ⟨(.type "tuple"), none, (.seq #[(.ref 31)] 0), #[]⟩
def k42 (p : Program) (P : Params) : Obj := ⟨(.type "tuple"), none, (.seq #[] 0), #[]⟩
def k43 (p : Program) (P : Params) : Obj := ⟨(.type "dict"), none, (.dict [de P (cs [95, 95, 109, 111, 100, 117, 108, 101, 95, 95]) 221 (.str (cs [102, 105, 118, 101, 102, 105, 101, 108, 100, 115, 46, 101, 114, 114, 111, 114, 115]) 194), de P (cs [95, 95, 102, 105, 114, 115, 116, 108, 105, 110, 101, 110, 111, 95, 95]) 225 (.int (7) 224), de P (cs [95, 95, 115, 116, 97, 116, 105, 99, 95, 97, 116, 116, 114, 105, 98, 117, 116, 101, 115, 95, 95]) 226 (.ref 42), de P (cs [95, 95, 100, 111, 99, 95, 95]) 227 .none].toArray 2), #[]⟩
def k44 (p : Program) (P : Params) : Obj := ⟨(.type "type"), none, (.cls { name := (cs [78, 111, 68, 97, 121]), bases := [(.ref 31)], mro := [(.ref 44), (.ref 31), (.type "ValueError"), (.type "Exception"), (.type "BaseException"), (.type "object")], ns := 43, qualname := (cs [78, 111, 68, 97, 121]), hasDict := true, slotNames := [], subclasses := [], abstract := false, collection := none, hasDel := false }), #[(some (.ref 35)), none, (some (.str (cs [78, 111, 68, 97, 121]) 214)), (some (.str (cs [78, 111, 68, 97, 121]) 222)), (some (.builtin "ValueError.__new__")), (some (.bool true))]⟩
def k47 (p : Program) (P : Params) : Obj := ⟨(.type "tuple"), none, (.seq #[(.ref 31)] 0), #[]⟩
def k54 (p : Program) (P : Params) : Obj := ⟨(.type "tuple"), none, (.seq #[] 0), #[]⟩
def k55 (p : Program) (P : Params) : Obj := ⟨(.type "dict"), none, (.dict [de P (cs [95, 95, 109, 111, 100, 117, 108, 101, 95, 95]) 237 (.str (cs [102, 105, 118, 101, 102, 105, 101, 108, 100, 115, 46, 101, 114, 114, 111, 114, 115]) 194), de P (cs [95, 95, 102, 105, 114, 115, 116, 108, 105, 110, 101, 110, 111, 95, 95]) 241 (.int (9) 240), de P (cs [95, 95, 115, 116, 97, 116, 105, 99, 95, 97, 116, 116, 114, 105, 98, 117, 116, 101, 115, 95, 95]) 242 (.ref 54), de P (cs [95, 95, 100, 111, 99, 95, 95]) 243 .none].toArray 2), #[]⟩
def k56 (p : Program) (P : Params) : Obj := ⟨(.type "type"), none, (.cls { name := (cs [78, 111, 77, 111, 109, 101, 110, 116]), bases := [(.ref 31)], mro := [(.ref 56), (.ref 31), (.type "ValueError"), (.type "Exception"), (.type "BaseException"), (.type "object")], ns := 55, qualname := (cs [78, 111, 77, 111, 109, 101, 110, 116]), hasDict := true, slotNames := [], subclasses := [], abstract := false, collection := none, hasDel := false }), #[(some (.ref 47)), none, (some (.str (cs [78, 111, 77, 111, 109, 101, 110, 116]) 230)), (some (.str (cs [78, 111, 77, 111, 109, 101, 110, 116]) 238)), (some (.builtin "ValueError.__new__")), (some (.bool true))]⟩
def k59 (p : Program) (P : Params) : Obj := ⟨(.type "tuple"), none, (.seq #[(.ref 31)] 0), #[]⟩
def k66 (p : Program) (P : Params) : Obj := ⟨(.type "tuple"), none, (.seq #[] 0), #[]⟩
def k68 (p : Program) (P : Params) : Obj := ⟨(.type "tuple"), none, (.seq #[(.str (cs [115, 101, 108, 102]) 261), (.str (cs [97, 116]) 262)] 0), #[]⟩
def k69 (p : Program) (P : Params) : Obj := ⟨(.type "tuple"), none, (.seq #[] 0), #[]⟩
def k71 (p : Program) (P : Params) : Obj := ⟨(.type "code"), none, (.fields #[(.str (cs [95, 95, 105, 110, 105, 116, 95, 95]) 258), (.str (cs [78, 111, 70, 105, 101, 108, 100, 46, 95, 95, 105, 110, 105, 116, 95, 95]) 259), (.str (cs [47, 99, 108, 97, 105, 109, 47, 99, 117, 116, 46, 112, 121]) 260), (.int (13) 0), (.int (2) 0), (.int (0) 0), (.int (0) 0), (.int (3) 0), (.ref 66), (.bool true), (.int (181) 0), (.ref 67), .none, (.ref 68), (.ref 69), (.ref 70), (.int (263) 0), (.int (13) 0), (.str (cs [47, 99, 108, 97, 105, 109, 47, 99, 117, 116, 46, 112, 121]) 264)]), #[]⟩
def k72 (p : Program) (P : Params) : Obj := ⟨(.type "function"), none, (.func (fnOf "__init__" "NoField.__init__" (defArgs (inClass (tpS p 5) 0)) (defBody (inClass (tpS p 5) 0)) (defScope (inClass (tpS p 5) 0)) .none .none .none (.str (cs [102, 105, 118, 101, 102, 105, 101, 108, 100, 115, 46, 101, 114, 114, 111, 114, 115]) 194) none (.ref 71) .none)), #[]⟩
def k73 (p : Program) (P : Params) : Obj := ⟨(.type "tuple"), none, (.seq #[(.str (cs [97, 116]) 266)] 0), #[]⟩
def k74 (p : Program) (P : Params) : Obj := ⟨(.type "dict"), none, (.dict [de P (cs [95, 95, 109, 111, 100, 117, 108, 101, 95, 95]) 253 (.str (cs [102, 105, 118, 101, 102, 105, 101, 108, 100, 115, 46, 101, 114, 114, 111, 114, 115]) 194), de P (cs [95, 95, 102, 105, 114, 115, 116, 108, 105, 110, 101, 110, 111, 95, 95]) 257 (.int (11) 256), de P (cs [95, 95, 105, 110, 105, 116, 95, 95]) 265 (.ref 72), de P (cs [95, 95, 115, 116, 97, 116, 105, 99, 95, 97, 116, 116, 114, 105, 98, 117, 116, 101, 115, 95, 95]) 267 (.ref 73), de P (cs [95, 95, 100, 111, 99, 95, 95]) 268 .none].toArray 2), #[]⟩
def k75 (p : Program) (P : Params) : Obj := ⟨(.type "type"), none, (.cls { name := (cs [78, 111, 70, 105, 101, 108, 100]), bases := [(.ref 31)], mro := [(.ref 75), (.ref 31), (.type "ValueError"), (.type "Exception"), (.type "BaseException"), (.type "object")], ns := 74, qualname := (cs [78, 111, 70, 105, 101, 108, 100]), hasDict := true, slotNames := [], subclasses := [], abstract := false, collection := none, hasDel := false }), #[(some (.ref 59)), none, (some (.str (cs [78, 111, 70, 105, 101, 108, 100]) 246)), (some (.str (cs [78, 111, 70, 105, 101, 108, 100]) 254)), (some (.builtin "ValueError.__new__")), (some (.bool true))]⟩
def k78 (p : Program) (P : Params) : Obj := ⟨(.type "tuple"), none, (.seq #[(.ref 31)] 0), #[]⟩
def k85 (p : Program) (P : Params) : Obj := ⟨(.type "tuple"), none, (.seq #[] 0), #[]⟩
def k87 (p : Program) (P : Params) : Obj := ⟨(.type "tuple"), none, (.seq #[(.str (cs [115, 101, 108, 102]) 286), (.str (cs [112, 108, 97, 99, 101]) 287)] 0), #[]⟩
def k88 (p : Program) (P : Params) : Obj := ⟨(.type "tuple"), none, (.seq #[] 0), #[]⟩
def k90 (p : Program) (P : Params) : Obj := ⟨(.type "code"), none, (.fields #[(.str (cs [95, 95, 105, 110, 105, 116, 95, 95]) 283), (.str (cs [78, 111, 82, 111, 119, 46, 95, 95, 105, 110, 105, 116, 95, 95]) 284), (.str (cs [47, 99, 108, 97, 105, 109, 47, 99, 117, 116, 46, 112, 121]) 285), (.int (18) 0), (.int (2) 0), (.int (0) 0), (.int (0) 0), (.int (3) 0), (.ref 85), (.bool true), (.int (181) 0), (.ref 86), .none, (.ref 87), (.ref 88), (.ref 89), (.int (288) 0), (.int (18) 0), (.str (cs [47, 99, 108, 97, 105, 109, 47, 99, 117, 116, 46, 112, 121]) 289)]), #[]⟩
def k91 (p : Program) (P : Params) : Obj := ⟨(.type "function"), none, (.func (fnOf "__init__" "NoRow.__init__" (defArgs (inClass (tpS p 6) 0)) (defBody (inClass (tpS p 6) 0)) (defScope (inClass (tpS p 6) 0)) .none .none .none (.str (cs [102, 105, 118, 101, 102, 105, 101, 108, 100, 115, 46, 101, 114, 114, 111, 114, 115]) 194) none (.ref 90) .none)), #[]⟩
def k92 (p : Program) (P : Params) : Obj := ⟨(.type "tuple"), none, (.seq #[(.str (cs [112, 108, 97, 99, 101]) 291)] 0), #[]⟩
def k93 (p : Program) (P : Params) : Obj := ⟨(.type "dict"), none, (.dict [de P (cs [95, 95, 109, 111, 100, 117, 108, 101, 95, 95]) 278 (.str (cs [102, 105, 118, 101, 102, 105, 101, 108, 100, 115, 46, 101, 114, 114, 111, 114, 115]) 194), de P (cs [95, 95, 102, 105, 114, 115, 116, 108, 105, 110, 101, 110, 111, 95, 95]) 282 (.int (16) 281), de P (cs [95, 95, 105, 110, 105, 116, 95, 95]) 290 (.ref 91), de P (cs [95, 95, 115, 116, 97, 116, 105, 99, 95, 97, 116, 116, 114, 105, 98, 117, 116, 101, 115, 95, 95]) 292 (.ref 92), de P (cs [95, 95, 100, 111, 99, 95, 95]) 293 .none].toArray 2), #[]⟩
def k94 (p : Program) (P : Params) : Obj := ⟨(.type "type"), none, (.cls { name := (cs [78, 111, 82, 111, 119]), bases := [(.ref 31)], mro := [(.ref 94), (.ref 31), (.type "ValueError"), (.type "Exception"), (.type "BaseException"), (.type "object")], ns := 93, qualname := (cs [78, 111, 82, 111, 119]), hasDict := true, slotNames := [], subclasses := [], abstract := false, collection := none, hasDel := false }), #[(some (.ref 78)), none, (some (.str (cs [78, 111, 82, 111, 119]) 271)), (some (.str (cs [78, 111, 82, 111, 119]) 279)), (some (.builtin "ValueError.__new__")), (some (.bool true))]⟩
def k97 (p : Program) (P : Params) : Obj := ⟨(.type "tuple"), none, (.seq #[(.ref 31)] 0), #[]⟩
def k104 (p : Program) (P : Params) : Obj := ⟨(.type "tuple"), none, (.seq #[] 0), #[]⟩
def k105 (p : Program) (P : Params) : Obj := ⟨(.type "dict"), none, (.dict [de P (cs [95, 95, 109, 111, 100, 117, 108, 101, 95, 95]) 303 (.str (cs [102, 105, 118, 101, 102, 105, 101, 108, 100, 115, 46, 101, 114, 114, 111, 114, 115]) 194), de P (cs [95, 95, 102, 105, 114, 115, 116, 108, 105, 110, 101, 110, 111, 95, 95]) 307 (.int (21) 306), de P (cs [95, 95, 115, 116, 97, 116, 105, 99, 95, 97, 116, 116, 114, 105, 98, 117, 116, 101, 115, 95, 95]) 308 (.ref 104), de P (cs [95, 95, 100, 111, 99, 95, 95]) 309 .none].toArray 2), #[]⟩
def k106 (p : Program) (P : Params) : Obj := ⟨(.type "type"), none, (.cls { name := (cs [78, 111, 66, 111, 111, 107]), bases := [(.ref 31)], mro := [(.ref 106), (.ref 31), (.type "ValueError"), (.type "Exception"), (.type "BaseException"), (.type "object")], ns := 105, qualname := (cs [78, 111, 66, 111, 111, 107]), hasDict := true, slotNames := [], subclasses := [], abstract := false, collection := none, hasDel := false }), #[(some (.ref 97)), none, (some (.str (cs [78, 111, 66, 111, 111, 107]) 296)), (some (.str (cs [78, 111, 66, 111, 111, 107]) 304)), (some (.builtin "ValueError.__new__")), (some (.bool true))]⟩
def k109 (p : Program) (P : Params) : Obj := ⟨(.type "tuple"), none, (.seq #[(.ref 31)] 0), #[]⟩
def k116 (p : Program) (P : Params) : Obj := ⟨(.type "tuple"), none, (.seq #[] 0), #[]⟩
def k117 (p : Program) (P : Params) : Obj := ⟨(.type "dict"), none, (.dict [de P (cs [95, 95, 109, 111, 100, 117, 108, 101, 95, 95]) 319 (.str (cs [102, 105, 118, 101, 102, 105, 101, 108, 100, 115, 46, 101, 114, 114, 111, 114, 115]) 194), de P (cs [95, 95, 102, 105, 114, 115, 116, 108, 105, 110, 101, 110, 111, 95, 95]) 323 (.int (23) 322), de P (cs [95, 95, 115, 116, 97, 116, 105, 99, 95, 97, 116, 116, 114, 105, 98, 117, 116, 101, 115, 95, 95]) 324 (.ref 116), de P (cs [95, 95, 100, 111, 99, 95, 95]) 325 .none].toArray 2), #[]⟩
def k118 (p : Program) (P : Params) : Obj := ⟨(.type "type"), none, (.cls { name := (cs [78, 111, 67, 108, 111, 99, 107]), bases := [(.ref 31)], mro := [(.ref 118), (.ref 31), (.type "ValueError"), (.type "Exception"), (.type "BaseException"), (.type "object")], ns := 117, qualname := (cs [78, 111, 67, 108, 111, 99, 107]), hasDict := true, slotNames := [], subclasses := [], abstract := false, collection := none, hasDel := false }), #[(some (.ref 109)), none, (some (.str (cs [78, 111, 67, 108, 111, 99, 107]) 312)), (some (.str (cs [78, 111, 67, 108, 111, 99, 107]) 320)), (some (.builtin "ValueError.__new__")), (some (.bool true))]⟩
def k121 (p : Program) (P : Params) : Obj := ⟨(.type "tuple"), none, (.seq #[(.ref 31)] 0), #[]⟩
def k128 (p : Program) (P : Params) : Obj := ⟨(.type "tuple"), none, (.seq #[] 0), #[]⟩
def k130 (p : Program) (P : Params) : Obj := ⟨(.type "tuple"), none, (.seq #[(.str (cs [115, 101, 108, 102]) 343), (.str (cs [110, 97, 109, 101]) 344)] 0), #[]⟩
def k131 (p : Program) (P : Params) : Obj := ⟨(.type "tuple"), none, (.seq #[] 0), #[]⟩
def k133 (p : Program) (P : Params) : Obj := ⟨(.type "code"), none, (.fields #[(.str (cs [95, 95, 105, 110, 105, 116, 95, 95]) 340), (.str (cs [78, 111, 78, 97, 109, 101, 46, 95, 95, 105, 110, 105, 116, 95, 95]) 341), (.str (cs [47, 99, 108, 97, 105, 109, 47, 99, 117, 116, 46, 112, 121]) 342), (.int (27) 0), (.int (2) 0), (.int (0) 0), (.int (0) 0), (.int (3) 0), (.ref 128), (.bool true), (.int (181) 0), (.ref 129), .none, (.ref 130), (.ref 131), (.ref 132), (.int (345) 0), (.int (27) 0), (.str (cs [47, 99, 108, 97, 105, 109, 47, 99, 117, 116, 46, 112, 121]) 346)]), #[]⟩
def k134 (p : Program) (P : Params) : Obj := ⟨(.type "function"), none, (.func (fnOf "__init__" "NoName.__init__" (defArgs (inClass (tpS p 9) 0)) (defBody (inClass (tpS p 9) 0)) (defScope (inClass (tpS p 9) 0)) .none .none .none (.str (cs [102, 105, 118, 101, 102, 105, 101, 108, 100, 115, 46, 101, 114, 114, 111, 114, 115]) 194) none (.ref 133) .none)), #[]⟩
def k135 (p : Program) (P : Params) : Obj := ⟨(.type "tuple"), none, (.seq #[(.str (cs [110, 97, 109, 101]) 348)] 0), #[]⟩
def k136 (p : Program) (P : Params) : Obj := ⟨(.type "dict"), none, (.dict [de P (cs [95, 95, 109, 111, 100, 117, 108, 101, 95, 95]) 335 (.str (cs [102, 105, 118, 101, 102, 105, 101, 108, 100, 115, 46, 101, 114, 114, 111, 114, 115]) 194), de P (cs [95, 95, 102, 105, 114, 115, 116, 108, 105, 110, 101, 110, 111, 95, 95]) 339 (.int (25) 338), de P (cs [95, 95, 105, 110, 105, 116, 95, 95]) 347 (.ref 134), de P (cs [95, 95, 115, 116, 97, 116, 105, 99, 95, 97, 116, 116, 114, 105, 98, 117, 116, 101, 115, 95, 95]) 349 (.ref 135), de P (cs [95, 95, 100, 111, 99, 95, 95]) 350 .none].toArray 2), #[]⟩
def k137 (p : Program) (P : Params) : Obj := ⟨(.type "type"), none, (.cls { name := (cs [78, 111, 78, 97, 109, 101]), bases := [(.ref 31)], mro := [(.ref 137), (.ref 31), (.type "ValueError"), (.type "Exception"), (.type "BaseException"), (.type "object")], ns := 136, qualname := (cs [78, 111, 78, 97, 109, 101]), hasDict := true, slotNames := [], subclasses := [], abstract := false, collection := none, hasDel := false }), #[(some (.ref 121)), none, (some (.str (cs [78, 111, 78, 97, 109, 101]) 328)), (some (.str (cs [78, 111, 78, 97, 109, 101]) 336)), (some (.builtin "ValueError.__new__")), (some (.bool true))]⟩
def k140 (p : Program) (P : Params) : Obj := ⟨(.type "tuple"), none, (.seq #[(.ref 31)] 0), #[]⟩
def k147 (p : Program) (P : Params) : Obj := ⟨(.type "tuple"), none, (.seq #[] 0), #[]⟩
def k148 (p : Program) (P : Params) : Obj := ⟨(.type "dict"), none, (.dict [de P (cs [95, 95, 109, 111, 100, 117, 108, 101, 95, 95]) 360 (.str (cs [102, 105, 118, 101, 102, 105, 101, 108, 100, 115, 46, 101, 114, 114, 111, 114, 115]) 194), de P (cs [95, 95, 102, 105, 114, 115, 116, 108, 105, 110, 101, 110, 111, 95, 95]) 364 (.int (30) 363), de P (cs [95, 95, 115, 116, 97, 116, 105, 99, 95, 97, 116, 116, 114, 105, 98, 117, 116, 101, 115, 95, 95]) 365 (.ref 147), de P (cs [95, 95, 100, 111, 99, 95, 95]) 366 .none].toArray 2), #[]⟩
def k149 (p : Program) (P : Params) : Obj := ⟨(.type "type"), none, (.cls { name := (cs [78, 111, 87, 111, 114, 100]), bases := [(.ref 31)], mro := [(.ref 149), (.ref 31), (.type "ValueError"), (.type "Exception"), (.type "BaseException"), (.type "object")], ns := 148, qualname := (cs [78, 111, 87, 111, 114, 100]), hasDict := true, slotNames := [], subclasses := [], abstract := false, collection := none, hasDel := false }), #[(some (.ref 140)), none, (some (.str (cs [78, 111, 87, 111, 114, 100]) 353)), (some (.str (cs [78, 111, 87, 111, 114, 100]) 361)), (some (.builtin "ValueError.__new__")), (some (.bool true))]⟩
def k152 (p : Program) (P : Params) : Obj := ⟨(.type "tuple"), none, (.seq #[] 0), #[]⟩
def k154 (p : Program) (P : Params) : Obj := ⟨(.type "tuple"), none, (.seq #[(.str (cs [115, 105, 103, 110, 115]) 376), (.str (cs [115, 105, 103, 110]) 377)] 0), #[]⟩
def k155 (p : Program) (P : Params) : Obj := ⟨(.type "tuple"), none, (.seq #[] 0), #[]⟩
def k157 (p : Program) (P : Params) : Obj := ⟨(.type "code"), none, (.fields #[(.str (cs [111, 110, 108, 121, 95, 102, 105, 103, 117, 114, 101, 115]) 373), (.str (cs [111, 110, 108, 121, 95, 102, 105, 103, 117, 114, 101, 115]) 374), (.str (cs [47, 99, 108, 97, 105, 109, 47, 99, 117, 116, 46, 112, 121]) 375), (.int (34) 0), (.int (1) 0), (.int (0) 0), (.int (0) 0), (.int (3) 0), (.ref 152), (.bool true), (.int (181) 0), (.ref 153), .none, (.ref 154), (.ref 155), (.ref 156), (.int (378) 0), (.int (34) 0), (.str (cs [47, 99, 108, 97, 105, 109, 47, 99, 117, 116, 46, 112, 121]) 379)]), #[]⟩
def k158 (p : Program) (P : Params) : Obj := ⟨(.type "function"), none, (.func (fnOf "only_figures" "only_figures" (defArgs (tpS p 13)) (defBody (tpS p 13)) (defScope (tpS p 13)) .none .none .none (.str (cs [102, 105, 118, 101, 102, 105, 101, 108, 100, 115, 46, 119, 104, 111, 108, 101, 115]) 369) none (.ref 157) .none)), #[]⟩
def k159 (p : Program) (P : Params) : Obj := ⟨(.type "tuple"), none, (.seq #[] 0), #[]⟩
def k161 (p : Program) (P : Params) : Obj := ⟨(.type "tuple"), none, (.seq #[(.str (cs [110, 117, 109, 98, 101, 114, 115]) 392), (.str (cs [109, 97, 115, 107]) 393), (.str (cs [110, 117, 109, 98, 101, 114]) 394)] 0), #[]⟩
def k162 (p : Program) (P : Params) : Obj := ⟨(.type "tuple"), none, (.seq #[] 0), #[]⟩
def k164 (p : Program) (P : Params) : Obj := ⟨(.type "code"), none, (.fields #[(.str (cs [109, 97, 115, 107, 95, 111, 102]) 389), (.str (cs [109, 97, 115, 107, 95, 111, 102]) 390), (.str (cs [47, 99, 108, 97, 105, 109, 47, 99, 117, 116, 46, 112, 121]) 391), (.int (43) 0), (.int (1) 0), (.int (0) 0), (.int (0) 0), (.int (3) 0), (.ref 159), (.bool true), (.int (181) 0), (.ref 160), .none, (.ref 161), (.ref 162), (.ref 163), (.int (395) 0), (.int (43) 0), (.str (cs [47, 99, 108, 97, 105, 109, 47, 99, 117, 116, 46, 112, 121]) 396)]), #[]⟩
def k165 (p : Program) (P : Params) : Obj := ⟨(.type "function"), none, (.func (fnOf "mask_of" "mask_of" (defArgs (tpS p 18)) (defBody (tpS p 18)) (defScope (tpS p 18)) .none .none .none (.str (cs [102, 105, 118, 101, 102, 105, 101, 108, 100, 115, 46, 102, 105, 101, 108, 100, 115]) 381) none (.ref 164) .none)), #[]⟩
def k166 (p : Program) (P : Params) : Obj := ⟨(.type "tuple"), none, (.seq #[] 0), #[]⟩
def k169 (p : Program) (P : Params) : Obj := ⟨(.type "code"), none, (.fields #[(.str (cs [110, 117, 109, 98, 101, 114, 95, 105, 110]) 398), (.str (cs [110, 117, 109, 98, 101, 114, 95, 105, 110]) 399), (.str (cs [47, 99, 108, 97, 105, 109, 47, 99, 117, 116, 46, 112, 121]) 400), (.int (48) 0), (.int (3) 0), (.int (0) 0), (.int (0) 0), (.int (3) 0), (.ref 166), (.bool true), (.int (181) 0), (.ref 167), .none, .none, .none, (.ref 168), (.int (401) 0), (.int (48) 0), (.str (cs [47, 99, 108, 97, 105, 109, 47, 99, 117, 116, 46, 112, 121]) 402)]), #[]⟩
def k170 (p : Program) (P : Params) : Obj := ⟨(.type "function"), none, (.func (fnOf "number_in" "number_in" (defArgs (tpS p 19)) (defBody (tpS p 19)) (defScope (tpS p 19)) .none .none .none (.str (cs [102, 105, 118, 101, 102, 105, 101, 108, 100, 115, 46, 102, 105, 101, 108, 100, 115]) 381) none (.ref 169) .none)), #[]⟩
def k171 (p : Program) (P : Params) : Obj := ⟨(.type "tuple"), none, (.seq #[] 0), #[]⟩
def k174 (p : Program) (P : Params) : Obj := ⟨(.type "code"), none, (.fields #[(.str (cs [115, 112, 97, 110, 95, 105, 110]) 405), (.str (cs [115, 112, 97, 110, 95, 105, 110]) 406), (.str (cs [47, 99, 108, 97, 105, 109, 47, 99, 117, 116, 46, 112, 121]) 407), (.int (53) 0), (.int (3) 0), (.int (0) 0), (.int (0) 0), (.int (3) 0), (.ref 171), (.bool true), (.int (181) 0), (.ref 172), .none, .none, .none, (.ref 173), (.int (408) 0), (.int (53) 0), (.str (cs [47, 99, 108, 97, 105, 109, 47, 99, 117, 116, 46, 112, 121]) 409)]), #[]⟩
def k175 (p : Program) (P : Params) : Obj := ⟨(.type "function"), none, (.func (fnOf "span_in" "span_in" (defArgs (tpS p 21)) (defBody (tpS p 21)) (defScope (tpS p 21)) .none .none .none (.str (cs [102, 105, 118, 101, 102, 105, 101, 108, 100, 115, 46, 102, 105, 101, 108, 100, 115]) 381) none (.ref 174) .none)), #[]⟩
def k176 (p : Program) (P : Params) : Obj := ⟨(.type "tuple"), none, (.seq #[] 0), #[]⟩
def k178 (p : Program) (P : Params) : Obj := ⟨(.type "tuple"), none, (.seq #[(.str (cs [105, 116, 101, 109]) 414), (.str (cs [108, 111, 119]) 415), (.str (cs [104, 105, 103, 104]) 416), (.str (cs [104, 97, 108, 118, 101, 115]) 417), (.str (cs [115, 112, 97, 110]) 418), (.str (cs [115, 116, 114, 105, 100, 101]) 419)] 0), #[]⟩
def k179 (p : Program) (P : Params) : Obj := ⟨(.type "tuple"), none, (.seq #[] 0), #[]⟩
def k181 (p : Program) (P : Params) : Obj := ⟨(.type "code"), none, (.fields #[(.str (cs [105, 116, 101, 109, 95, 109, 97, 115, 107]) 411), (.str (cs [105, 116, 101, 109, 95, 109, 97, 115, 107]) 412), (.str (cs [47, 99, 108, 97, 105, 109, 47, 99, 117, 116, 46, 112, 121]) 413), (.int (60) 0), (.int (3) 0), (.int (0) 0), (.int (0) 0), (.int (3) 0), (.ref 176), (.bool true), (.int (181) 0), (.ref 177), .none, (.ref 178), (.ref 179), (.ref 180), (.int (420) 0), (.int (60) 0), (.str (cs [47, 99, 108, 97, 105, 109, 47, 99, 117, 116, 46, 112, 121]) 421)]), #[]⟩
def k182 (p : Program) (P : Params) : Obj := ⟨(.type "function"), none, (.func (fnOf "item_mask" "item_mask" (defArgs (tpS p 22)) (defBody (tpS p 22)) (defScope (tpS p 22)) .none .none .none (.str (cs [102, 105, 118, 101, 102, 105, 101, 108, 100, 115, 46, 102, 105, 101, 108, 100, 115]) 381) none (.ref 181) .none)), #[]⟩
def k183 (p : Program) (P : Params) : Obj := ⟨(.type "tuple"), none, (.seq #[] 0), #[]⟩
def k185 (p : Program) (P : Params) : Obj := ⟨(.type "tuple"), none, (.seq #[(.str (cs [116, 101, 120, 116]) 426), (.str (cs [108, 111, 119]) 427), (.str (cs [104, 105, 103, 104]) 428), (.str (cs [109, 97, 115, 107]) 429), (.str (cs [105, 116, 101, 109, 115]) 430), (.str (cs [97, 116]) 431), (.str (cs [105, 116, 101, 109]) 432), (.str (cs [104, 101, 114, 101]) 433)] 0), #[]⟩
def k186 (p : Program) (P : Params) : Obj := ⟨(.type "tuple"), none, (.seq #[] 0), #[]⟩
def k188 (p : Program) (P : Params) : Obj := ⟨(.type "code"), none, (.fields #[(.str (cs [114, 101, 97, 100, 95, 102, 105, 101, 108, 100]) 423), (.str (cs [114, 101, 97, 100, 95, 102, 105, 101, 108, 100]) 424), (.str (cs [47, 99, 108, 97, 105, 109, 47, 99, 117, 116, 46, 112, 121]) 425), (.int (73) 0), (.int (3) 0), (.int (0) 0), (.int (0) 0), (.int (3) 0), (.ref 183), (.bool true), (.int (181) 0), (.ref 184), .none, (.ref 185), (.ref 186), (.ref 187), (.int (434) 0), (.int (73) 0), (.str (cs [47, 99, 108, 97, 105, 109, 47, 99, 117, 116, 46, 112, 121]) 435)]), #[]⟩
def k189 (p : Program) (P : Params) : Obj := ⟨(.type "function"), none, (.func (fnOf "read_field" "read_field" (defArgs (tpS p 23)) (defBody (tpS p 23)) (defScope (tpS p 23)) .none .none .none (.str (cs [102, 105, 118, 101, 102, 105, 101, 108, 100, 115, 46, 102, 105, 101, 108, 100, 115]) 381) none (.ref 188) .none)), #[]⟩
def k190 (p : Program) (P : Params) : Obj := ⟨(.type "tuple"), none, (.seq #[] 0), #[]⟩
def k192 (p : Program) (P : Params) : Obj := ⟨(.type "tuple"), none, (.seq #[(.str (cs [100, 97, 121]) 454), (.str (cs [102, 105, 114, 115, 116]) 455)] 0), #[]⟩
def k193 (p : Program) (P : Params) : Obj := ⟨(.type "tuple"), none, (.seq #[] 0), #[]⟩
def k195 (p : Program) (P : Params) : Obj := ⟨(.type "code"), none, (.fields #[(.str (cs [119, 101, 101, 107, 100, 97, 121, 95, 105, 110]) 451), (.str (cs [119, 101, 101, 107, 100, 97, 121, 95, 105, 110]) 452), (.str (cs [47, 99, 108, 97, 105, 109, 47, 99, 117, 116, 46, 112, 121]) 453), (.int (93) 0), (.int (2) 0), (.int (0) 0), (.int (0) 0), (.int (3) 0), (.ref 190), (.bool true), (.int (181) 0), (.ref 191), .none, (.ref 192), (.ref 193), (.ref 194), (.int (456) 0), (.int (93) 0), (.str (cs [47, 99, 108, 97, 105, 109, 47, 99, 117, 116, 46, 112, 121]) 457)]), #[]⟩
def k196 (p : Program) (P : Params) : Obj := ⟨(.type "function"), none, (.func (fnOf "weekday_in" "weekday_in" (defArgs (tpS p 31)) (defBody (tpS p 31)) (defScope (tpS p 31)) .none .none .none (.str (cs [102, 105, 118, 101, 102, 105, 101, 108, 100, 115, 46, 109, 97, 114, 107, 115]) 437) none (.ref 195) .none)), #[]⟩
def k204 (p : Program) (P : Params) : Obj := ⟨(.type "tuple"), none, (.seq #[] 0), #[]⟩
def k206 (p : Program) (P : Params) : Obj := ⟨(.type "tuple"), none, (.seq #[(.str (cs [115, 101, 108, 102]) 474), (.str (cs [108, 97, 115, 116]) 475), (.str (cs [102, 105, 114, 115, 116]) 476)] 0), #[]⟩
def k207 (p : Program) (P : Params) : Obj := ⟨(.type "tuple"), none, (.seq #[] 0), #[]⟩
def k209 (p : Program) (P : Params) : Obj := ⟨(.type "code"), none, (.fields #[(.str (cs [100, 97, 121, 115]) 471), (.str (cs [77, 97, 114, 107, 46, 100, 97, 121, 115]) 472), (.str (cs [47, 99, 108, 97, 105, 109, 47, 99, 117, 116, 46, 112, 121]) 473), (.int (97) 0), (.int (3) 0), (.int (0) 0), (.int (0) 0), (.int (3) 0), (.ref 204), (.bool true), (.int (181) 0), (.ref 205), .none, (.ref 206), (.ref 207), (.ref 208), (.int (477) 0), (.int (97) 0), (.str (cs [47, 99, 108, 97, 105, 109, 47, 99, 117, 116, 46, 112, 121]) 478)]), #[]⟩
def k210 (p : Program) (P : Params) : Obj := ⟨(.type "function"), none, (.func (fnOf "days" "Mark.days" (defArgs (inClass (tpS p 32) 0)) (defBody (inClass (tpS p 32) 0)) (defScope (inClass (tpS p 32) 0)) .none .none .none (.str (cs [102, 105, 118, 101, 102, 105, 101, 108, 100, 115, 46, 109, 97, 114, 107, 115]) 437) none (.ref 209) .none)), #[]⟩
def k211 (p : Program) (P : Params) : Obj := ⟨(.type "tuple"), none, (.seq #[] 0), #[]⟩
def k213 (p : Program) (P : Params) : Obj := ⟨(.type "tuple"), none, (.seq #[(.str (cs [115, 101, 108, 102]) 483)] 0), #[]⟩
def k214 (p : Program) (P : Params) : Obj := ⟨(.type "tuple"), none, (.seq #[] 0), #[]⟩
def k216 (p : Program) (P : Params) : Obj := ⟨(.type "code"), none, (.fields #[(.str (cs [116, 111, 108, 100]) 480), (.str (cs [77, 97, 114, 107, 46, 116, 111, 108, 100]) 481), (.str (cs [47, 99, 108, 97, 105, 109, 47, 99, 117, 116, 46, 112, 121]) 482), (.int (100) 0), (.int (1) 0), (.int (0) 0), (.int (0) 0), (.int (3) 0), (.ref 211), (.bool true), (.int (181) 0), (.ref 212), .none, (.ref 213), (.ref 214), (.ref 215), (.int (484) 0), (.int (100) 0), (.str (cs [47, 99, 108, 97, 105, 109, 47, 99, 117, 116, 46, 112, 121]) 485)]), #[]⟩
def k217 (p : Program) (P : Params) : Obj := ⟨(.type "function"), none, (.func (fnOf "told" "Mark.told" (defArgs (inClass (tpS p 32) 1)) (defBody (inClass (tpS p 32) 1)) (defScope (inClass (tpS p 32) 1)) .none .none .none (.str (cs [102, 105, 118, 101, 102, 105, 101, 108, 100, 115, 46, 109, 97, 114, 107, 115]) 437) none (.ref 216) .none)), #[]⟩
def k218 (p : Program) (P : Params) : Obj := ⟨(.type "tuple"), none, (.seq #[] 0), #[]⟩
def k219 (p : Program) (P : Params) : Obj := ⟨(.type "dict"), none, (.dict [de P (cs [95, 95, 109, 111, 100, 117, 108, 101, 95, 95]) 466 (.str (cs [102, 105, 118, 101, 102, 105, 101, 108, 100, 115, 46, 109, 97, 114, 107, 115]) 437), de P (cs [95, 95, 102, 105, 114, 115, 116, 108, 105, 110, 101, 110, 111, 95, 95]) 470 (.int (95) 469), de P (cs [100, 97, 121, 115]) 479 (.ref 210), de P (cs [116, 111, 108, 100]) 486 (.ref 217), de P (cs [95, 95, 115, 116, 97, 116, 105, 99, 95, 97, 116, 116, 114, 105, 98, 117, 116, 101, 115, 95, 95]) 487 (.ref 218), de P (cs [95, 95, 100, 105, 99, 116, 95, 95]) 489 (.ref 221), de P (cs [95, 95, 119, 101, 97, 107, 114, 101, 102, 95, 95]) 491 (.ref 222), de P (cs [95, 95, 100, 111, 99, 95, 95]) 492 .none].toArray 4), #[]⟩
def k220 (p : Program) (P : Params) : Obj := ⟨(.type "type"), none, (.cls { name := (cs [77, 97, 114, 107]), bases := [(.type "object")], mro := [(.ref 220), (.type "object")], ns := 219, qualname := (cs [77, 97, 114, 107]), hasDict := true, slotNames := [], subclasses := [(.ref 255), (.ref 289), (.ref 322), (.ref 348), (.ref 381), (.ref 414), (.ref 447)], abstract := false, collection := none, hasDel := false }), #[none, none, (some (.str (cs [77, 97, 114, 107]) 459)), (some (.str (cs [77, 97, 114, 107]) 467)), (some (.builtin "object.__new__")), (some (.bool true))]⟩
def k221 (p : Program) (P : Params) : Obj := ⟨(.type "getset_descriptor"), none, (.fields #[(.str (cs [95, 95, 100, 105, 99, 116, 95, 95]) 488), (.ref 220), (.builtin "function.__dict__"), (.builtin "function.__dict__#set")]), #[]⟩
def k222 (p : Program) (P : Params) : Obj := ⟨(.type "getset_descriptor"), none, (.fields #[(.str (cs [95, 95, 119, 101, 97, 107, 114, 101, 102, 95, 95]) 490), (.ref 220), (.builtin "ExceptionGroup.__weakref__"), .none]), #[]⟩
def k225 (p : Program) (P : Params) : Obj := ⟨(.type "tuple"), none, (.seq #[(.ref 220)] 0), #[]⟩
def k232 (p : Program) (P : Params) : Obj := ⟨(.type "tuple"), none, (.seq #[] 0), #[]⟩
def k234 (p : Program) (P : Params) : Obj := ⟨(.type "tuple"), none, (.seq #[(.str (cs [115, 101, 108, 102]) 510), (.str (cs [109, 97, 115, 107]) 511)] 0), #[]⟩
def k235 (p : Program) (P : Params) : Obj := ⟨(.type "tuple"), none, (.seq #[] 0), #[]⟩
def k237 (p : Program) (P : Params) : Obj := ⟨(.type "code"), none, (.fields #[(.str (cs [95, 95, 105, 110, 105, 116, 95, 95]) 507), (.str (cs [78, 117, 109, 98, 101, 114, 115, 46, 95, 95, 105, 110, 105, 116, 95, 95]) 508), (.str (cs [47, 99, 108, 97, 105, 109, 47, 99, 117, 116, 46, 112, 121]) 509), (.int (104) 0), (.int (2) 0), (.int (0) 0), (.int (0) 0), (.int (3) 0), (.ref 232), (.bool true), (.int (181) 0), (.ref 233), .none, (.ref 234), (.ref 235), (.ref 236), (.int (512) 0), (.int (104) 0), (.str (cs [47, 99, 108, 97, 105, 109, 47, 99, 117, 116, 46, 112, 121]) 513)]), #[]⟩
def k238 (p : Program) (P : Params) : Obj := ⟨(.type "function"), none, (.func (fnOf "__init__" "Numbers.__init__" (defArgs (inClass (tpS p 33) 0)) (defBody (inClass (tpS p 33) 0)) (defScope (inClass (tpS p 33) 0)) .none .none .none (.str (cs [102, 105, 118, 101, 102, 105, 101, 108, 100, 115, 46, 109, 97, 114, 107, 115]) 437) none (.ref 237) .none)), #[]⟩
def k239 (p : Program) (P : Params) : Obj := ⟨(.type "tuple"), none, (.seq #[] 0), #[]⟩
def k241 (p : Program) (P : Params) : Obj := ⟨(.type "tuple"), none, (.seq #[(.str (cs [115, 101, 108, 102]) 518), (.str (cs [108, 97, 115, 116]) 519), (.str (cs [102, 105, 114, 115, 116]) 520)] 0), #[]⟩
def k242 (p : Program) (P : Params) : Obj := ⟨(.type "tuple"), none, (.seq #[] 0), #[]⟩
def k244 (p : Program) (P : Params) : Obj := ⟨(.type "code"), none, (.fields #[(.str (cs [100, 97, 121, 115]) 515), (.str (cs [78, 117, 109, 98, 101, 114, 115, 46, 100, 97, 121, 115]) 516), (.str (cs [47, 99, 108, 97, 105, 109, 47, 99, 117, 116, 46, 112, 121]) 517), (.int (107) 0), (.int (3) 0), (.int (0) 0), (.int (0) 0), (.int (3) 0), (.ref 239), (.bool true), (.int (181) 0), (.ref 240), .none, (.ref 241), (.ref 242), (.ref 243), (.int (521) 0), (.int (107) 0), (.str (cs [47, 99, 108, 97, 105, 109, 47, 99, 117, 116, 46, 112, 121]) 522)]), #[]⟩
def k245 (p : Program) (P : Params) : Obj := ⟨(.type "function"), none, (.func (fnOf "days" "Numbers.days" (defArgs (inClass (tpS p 33) 1)) (defBody (inClass (tpS p 33) 1)) (defScope (inClass (tpS p 33) 1)) .none .none .none (.str (cs [102, 105, 118, 101, 102, 105, 101, 108, 100, 115, 46, 109, 97, 114, 107, 115]) 437) none (.ref 244) .none)), #[]⟩
def k246 (p : Program) (P : Params) : Obj := ⟨(.type "tuple"), none, (.seq #[] 0), #[]⟩
def k248 (p : Program) (P : Params) : Obj := ⟨(.type "tuple"), none, (.seq #[(.str (cs [115, 101, 108, 102]) 527)] 0), #[]⟩
def k249 (p : Program) (P : Params) : Obj := ⟨(.type "tuple"), none, (.seq #[] 0), #[]⟩
def k251 (p : Program) (P : Params) : Obj := ⟨(.type "code"), none, (.fields #[(.str (cs [116, 111, 108, 100]) 524), (.str (cs [78, 117, 109, 98, 101, 114, 115, 46, 116, 111, 108, 100]) 525), (.str (cs [47, 99, 108, 97, 105, 109, 47, 99, 117, 116, 46, 112, 121]) 526), (.int (110) 0), (.int (1) 0), (.int (0) 0), (.int (0) 0), (.int (3) 0), (.ref 246), (.bool true), (.int (181) 0), (.ref 247), .none, (.ref 248), (.ref 249), (.ref 250), (.int (528) 0), (.int (110) 0), (.str (cs [47, 99, 108, 97, 105, 109, 47, 99, 117, 116, 46, 112, 121]) 529)]), #[]⟩
def k252 (p : Program) (P : Params) : Obj := ⟨(.type "function"), none, (.func (fnOf "told" "Numbers.told" (defArgs (inClass (tpS p 33) 2)) (defBody (inClass (tpS p 33) 2)) (defScope (inClass (tpS p 33) 2)) .none .none .none (.str (cs [102, 105, 118, 101, 102, 105, 101, 108, 100, 115, 46, 109, 97, 114, 107, 115]) 437) none (.ref 251) .none)), #[]⟩
def k253 (p : Program) (P : Params) : Obj := ⟨(.type "tuple"), none, (.seq #[(.str (cs [109, 97, 115, 107]) 531)] 0), #[]⟩
def k254 (p : Program) (P : Params) : Obj := ⟨(.type "dict"), none, (.dict [de P (cs [95, 95, 109, 111, 100, 117, 108, 101, 95, 95]) 502 (.str (cs [102, 105, 118, 101, 102, 105, 101, 108, 100, 115, 46, 109, 97, 114, 107, 115]) 437), de P (cs [95, 95, 102, 105, 114, 115, 116, 108, 105, 110, 101, 110, 111, 95, 95]) 506 (.int (102) 505), de P (cs [95, 95, 105, 110, 105, 116, 95, 95]) 514 (.ref 238), de P (cs [100, 97, 121, 115]) 523 (.ref 245), de P (cs [116, 111, 108, 100]) 530 (.ref 252), de P (cs [95, 95, 115, 116, 97, 116, 105, 99, 95, 97, 116, 116, 114, 105, 98, 117, 116, 101, 115, 95, 95]) 532 (.ref 253), de P (cs [95, 95, 100, 111, 99, 95, 95]) 533 .none].toArray 2), #[]⟩
def k255 (p : Program) (P : Params) : Obj := ⟨(.type "type"), none, (.cls { name := (cs [78, 117, 109, 98, 101, 114, 115]), bases := [(.ref 220)], mro := [(.ref 255), (.ref 220), (.type "object")], ns := 254, qualname := (cs [78, 117, 109, 98, 101, 114, 115]), hasDict := true, slotNames := [], subclasses := [], abstract := false, collection := none, hasDel := false }), #[(some (.ref 225)), none, (some (.str (cs [78, 117, 109, 98, 101, 114, 115]) 495)), (some (.str (cs [78, 117, 109, 98, 101, 114, 115]) 503)), (some (.builtin "object.__new__")), (some (.bool true))]⟩
def k258 (p : Program) (P : Params) : Obj := ⟨(.type "tuple"), none, (.seq #[(.ref 220)] 0), #[]⟩
def k265 (p : Program) (P : Params) : Obj := ⟨(.type "tuple"), none, (.seq #[(.int (0) 548)] 0), #[]⟩
def k266 (p : Program) (P : Params) : Obj := ⟨(.type "tuple"), none, (.seq #[] 0), #[]⟩
def k268 (p : Program) (P : Params) : Obj := ⟨(.type "tuple"), none, (.seq #[(.str (cs [115, 101, 108, 102]) 552), (.str (cs [98, 97, 99, 107]) 553)] 0), #[]⟩
def k269 (p : Program) (P : Params) : Obj := ⟨(.type "tuple"), none, (.seq #[] 0), #[]⟩
def k271 (p : Program) (P : Params) : Obj := ⟨(.type "code"), none, (.fields #[(.str (cs [95, 95, 105, 110, 105, 116, 95, 95]) 549), (.str (cs [76, 97, 115, 116, 46, 95, 95, 105, 110, 105, 116, 95, 95]) 550), (.str (cs [47, 99, 108, 97, 105, 109, 47, 99, 117, 116, 46, 112, 121]) 551), (.int (114) 0), (.int (2) 0), (.int (0) 0), (.int (0) 0), (.int (3) 0), (.ref 266), (.bool true), (.int (181) 0), (.ref 267), .none, (.ref 268), (.ref 269), (.ref 270), (.int (554) 0), (.int (114) 0), (.str (cs [47, 99, 108, 97, 105, 109, 47, 99, 117, 116, 46, 112, 121]) 555)]), #[]⟩
def k272 (p : Program) (P : Params) : Obj := ⟨(.type "function"), none, (.func (fnOf "__init__" "Last.__init__" (defArgs (inClass (tpS p 34) 0)) (defBody (inClass (tpS p 34) 0)) (defScope (inClass (tpS p 34) 0)) (.ref 265) .none .none (.str (cs [102, 105, 118, 101, 102, 105, 101, 108, 100, 115, 46, 109, 97, 114, 107, 115]) 437) none (.ref 271) .none)), #[]⟩
def k273 (p : Program) (P : Params) : Obj := ⟨(.type "tuple"), none, (.seq #[] 0), #[]⟩
def k275 (p : Program) (P : Params) : Obj := ⟨(.type "tuple"), none, (.seq #[(.str (cs [115, 101, 108, 102]) 560), (.str (cs [108, 97, 115, 116]) 561), (.str (cs [102, 105, 114, 115, 116]) 562)] 0), #[]⟩
def k276 (p : Program) (P : Params) : Obj := ⟨(.type "tuple"), none, (.seq #[] 0), #[]⟩
def k278 (p : Program) (P : Params) : Obj := ⟨(.type "code"), none, (.fields #[(.str (cs [100, 97, 121, 115]) 557), (.str (cs [76, 97, 115, 116, 46, 100, 97, 121, 115]) 558), (.str (cs [47, 99, 108, 97, 105, 109, 47, 99, 117, 116, 46, 112, 121]) 559), (.int (117) 0), (.int (3) 0), (.int (0) 0), (.int (0) 0), (.int (3) 0), (.ref 273), (.bool true), (.int (181) 0), (.ref 274), .none, (.ref 275), (.ref 276), (.ref 277), (.int (563) 0), (.int (117) 0), (.str (cs [47, 99, 108, 97, 105, 109, 47, 99, 117, 116, 46, 112, 121]) 564)]), #[]⟩
def k279 (p : Program) (P : Params) : Obj := ⟨(.type "function"), none, (.func (fnOf "days" "Last.days" (defArgs (inClass (tpS p 34) 1)) (defBody (inClass (tpS p 34) 1)) (defScope (inClass (tpS p 34) 1)) .none .none .none (.str (cs [102, 105, 118, 101, 102, 105, 101, 108, 100, 115, 46, 109, 97, 114, 107, 115]) 437) none (.ref 278) .none)), #[]⟩
def k280 (p : Program) (P : Params) : Obj := ⟨(.type "tuple"), none, (.seq #[] 0), #[]⟩
def k282 (p : Program) (P : Params) : Obj := ⟨(.type "tuple"), none, (.seq #[(.str (cs [115, 101, 108, 102]) 569)] 0), #[]⟩
def k283 (p : Program) (P : Params) : Obj := ⟨(.type "tuple"), none, (.seq #[] 0), #[]⟩
def k285 (p : Program) (P : Params) : Obj := ⟨(.type "code"), none, (.fields #[(.str (cs [116, 111, 108, 100]) 566), (.str (cs [76, 97, 115, 116, 46, 116, 111, 108, 100]) 567), (.str (cs [47, 99, 108, 97, 105, 109, 47, 99, 117, 116, 46, 112, 121]) 568), (.int (122) 0), (.int (1) 0), (.int (0) 0), (.int (0) 0), (.int (3) 0), (.ref 280), (.bool true), (.int (181) 0), (.ref 281), .none, (.ref 282), (.ref 283), (.ref 284), (.int (570) 0), (.int (122) 0), (.str (cs [47, 99, 108, 97, 105, 109, 47, 99, 117, 116, 46, 112, 121]) 571)]), #[]⟩
def k286 (p : Program) (P : Params) : Obj := ⟨(.type "function"), none, (.func (fnOf "told" "Last.told" (defArgs (inClass (tpS p 34) 2)) (defBody (inClass (tpS p 34) 2)) (defScope (inClass (tpS p 34) 2)) .none .none .none (.str (cs [102, 105, 118, 101, 102, 105, 101, 108, 100, 115, 46, 109, 97, 114, 107, 115]) 437) none (.ref 285) .none)), #[]⟩
def k287 (p : Program) (P : Params) : Obj := ⟨(.type "tuple"), none, (.seq #[(.str (cs [98, 97, 99, 107]) 573)] 0), #[]⟩
def k288 (p : Program) (P : Params) : Obj := ⟨(.type "dict"), none, (.dict [de P (cs [95, 95, 109, 111, 100, 117, 108, 101, 95, 95]) 543 (.str (cs [102, 105, 118, 101, 102, 105, 101, 108, 100, 115, 46, 109, 97, 114, 107, 115]) 437), de P (cs [95, 95, 102, 105, 114, 115, 116, 108, 105, 110, 101, 110, 111, 95, 95]) 547 (.int (112) 546), de P (cs [95, 95, 105, 110, 105, 116, 95, 95]) 556 (.ref 272), de P (cs [100, 97, 121, 115]) 565 (.ref 279), de P (cs [116, 111, 108, 100]) 572 (.ref 286), de P (cs [95, 95, 115, 116, 97, 116, 105, 99, 95, 97, 116, 116, 114, 105, 98, 117, 116, 101, 115, 95, 95]) 574 (.ref 287), de P (cs [95, 95, 100, 111, 99, 95, 95]) 575 .none].toArray 2), #[]⟩
def k289 (p : Program) (P : Params) : Obj := ⟨(.type "type"), none, (.cls { name := (cs [76, 97, 115, 116]), bases := [(.ref 220)], mro := [(.ref 289), (.ref 220), (.type "object")], ns := 288, qualname := (cs [76, 97, 115, 116]), hasDict := true, slotNames := [], subclasses := [], abstract := false, collection := none, hasDel := false }), #[(some (.ref 258)), none, (some (.str (cs [76, 97, 115, 116]) 536)), (some (.str (cs [76, 97, 115, 116]) 544)), (some (.builtin "object.__new__")), (some (.bool true))]⟩
def k292 (p : Program) (P : Params) : Obj := ⟨(.type "tuple"), none, (.seq #[(.ref 220)] 0), #[]⟩
def k299 (p : Program) (P : Params) : Obj := ⟨(.type "tuple"), none, (.seq #[] 0), #[]⟩
def k301 (p : Program) (P : Params) : Obj := ⟨(.type "tuple"), none, (.seq #[(.str (cs [115, 101, 108, 102]) 593), (.str (cs [100, 97, 121]) 594)] 0), #[]⟩
def k302 (p : Program) (P : Params) : Obj := ⟨(.type "tuple"), none, (.seq #[] 0), #[]⟩
def k304 (p : Program) (P : Params) : Obj := ⟨(.type "code"), none, (.fields #[(.str (cs [95, 95, 105, 110, 105, 116, 95, 95]) 590), (.str (cs [78, 101, 97, 114, 46, 95, 95, 105, 110, 105, 116, 95, 95]) 591), (.str (cs [47, 99, 108, 97, 105, 109, 47, 99, 117, 116, 46, 112, 121]) 592), (.int (126) 0), (.int (2) 0), (.int (0) 0), (.int (0) 0), (.int (3) 0), (.ref 299), (.bool true), (.int (181) 0), (.ref 300), .none, (.ref 301), (.ref 302), (.ref 303), (.int (595) 0), (.int (126) 0), (.str (cs [47, 99, 108, 97, 105, 109, 47, 99, 117, 116, 46, 112, 121]) 596)]), #[]⟩
def k305 (p : Program) (P : Params) : Obj := ⟨(.type "function"), none, (.func (fnOf "__init__" "Near.__init__" (defArgs (inClass (tpS p 35) 0)) (defBody (inClass (tpS p 35) 0)) (defScope (inClass (tpS p 35) 0)) .none .none .none (.str (cs [102, 105, 118, 101, 102, 105, 101, 108, 100, 115, 46, 109, 97, 114, 107, 115]) 437) none (.ref 304) .none)), #[]⟩
def k306 (p : Program) (P : Params) : Obj := ⟨(.type "tuple"), none, (.seq #[] 0), #[]⟩
def k308 (p : Program) (P : Params) : Obj := ⟨(.type "tuple"), none, (.seq #[(.str (cs [115, 101, 108, 102]) 601), (.str (cs [108, 97, 115, 116]) 602), (.str (cs [102, 105, 114, 115, 116]) 603), (.str (cs [111, 110]) 604), (.str (cs [110, 101, 97, 114]) 605)] 0), #[]⟩
def k309 (p : Program) (P : Params) : Obj := ⟨(.type "tuple"), none, (.seq #[] 0), #[]⟩
def k311 (p : Program) (P : Params) : Obj := ⟨(.type "code"), none, (.fields #[(.str (cs [100, 97, 121, 115]) 598), (.str (cs [78, 101, 97, 114, 46, 100, 97, 121, 115]) 599), (.str (cs [47, 99, 108, 97, 105, 109, 47, 99, 117, 116, 46, 112, 121]) 600), (.int (129) 0), (.int (3) 0), (.int (0) 0), (.int (0) 0), (.int (3) 0), (.ref 306), (.bool true), (.int (181) 0), (.ref 307), .none, (.ref 308), (.ref 309), (.ref 310), (.int (606) 0), (.int (129) 0), (.str (cs [47, 99, 108, 97, 105, 109, 47, 99, 117, 116, 46, 112, 121]) 607)]), #[]⟩
def k312 (p : Program) (P : Params) : Obj := ⟨(.type "function"), none, (.func (fnOf "days" "Near.days" (defArgs (inClass (tpS p 35) 1)) (defBody (inClass (tpS p 35) 1)) (defScope (inClass (tpS p 35) 1)) .none .none .none (.str (cs [102, 105, 118, 101, 102, 105, 101, 108, 100, 115, 46, 109, 97, 114, 107, 115]) 437) none (.ref 311) .none)), #[]⟩
def k313 (p : Program) (P : Params) : Obj := ⟨(.type "tuple"), none, (.seq #[] 0), #[]⟩
def k315 (p : Program) (P : Params) : Obj := ⟨(.type "tuple"), none, (.seq #[(.str (cs [115, 101, 108, 102]) 612)] 0), #[]⟩
def k316 (p : Program) (P : Params) : Obj := ⟨(.type "tuple"), none, (.seq #[] 0), #[]⟩
def k318 (p : Program) (P : Params) : Obj := ⟨(.type "code"), none, (.fields #[(.str (cs [116, 111, 108, 100]) 609), (.str (cs [78, 101, 97, 114, 46, 116, 111, 108, 100]) 610), (.str (cs [47, 99, 108, 97, 105, 109, 47, 99, 117, 116, 46, 112, 121]) 611), (.int (144) 0), (.int (1) 0), (.int (0) 0), (.int (0) 0), (.int (3) 0), (.ref 313), (.bool true), (.int (181) 0), (.ref 314), .none, (.ref 315), (.ref 316), (.ref 317), (.int (613) 0), (.int (144) 0), (.str (cs [47, 99, 108, 97, 105, 109, 47, 99, 117, 116, 46, 112, 121]) 614)]), #[]⟩
def k319 (p : Program) (P : Params) : Obj := ⟨(.type "function"), none, (.func (fnOf "told" "Near.told" (defArgs (inClass (tpS p 35) 2)) (defBody (inClass (tpS p 35) 2)) (defScope (inClass (tpS p 35) 2)) .none .none .none (.str (cs [102, 105, 118, 101, 102, 105, 101, 108, 100, 115, 46, 109, 97, 114, 107, 115]) 437) none (.ref 318) .none)), #[]⟩
def k320 (p : Program) (P : Params) : Obj := ⟨(.type "tuple"), none, (.seq #[(.str (cs [100, 97, 121]) 616)] 0), #[]⟩
def k321 (p : Program) (P : Params) : Obj := ⟨(.type "dict"), none, (.dict [de P (cs [95, 95, 109, 111, 100, 117, 108, 101, 95, 95]) 585 (.str (cs [102, 105, 118, 101, 102, 105, 101, 108, 100, 115, 46, 109, 97, 114, 107, 115]) 437), de P (cs [95, 95, 102, 105, 114, 115, 116, 108, 105, 110, 101, 110, 111, 95, 95]) 589 (.int (124) 588), de P (cs [95, 95, 105, 110, 105, 116, 95, 95]) 597 (.ref 305), de P (cs [100, 97, 121, 115]) 608 (.ref 312), de P (cs [116, 111, 108, 100]) 615 (.ref 319), de P (cs [95, 95, 115, 116, 97, 116, 105, 99, 95, 97, 116, 116, 114, 105, 98, 117, 116, 101, 115, 95, 95]) 617 (.ref 320), de P (cs [95, 95, 100, 111, 99, 95, 95]) 618 .none].toArray 2), #[]⟩
def k322 (p : Program) (P : Params) : Obj := ⟨(.type "type"), none, (.cls { name := (cs [78, 101, 97, 114]), bases := [(.ref 220)], mro := [(.ref 322), (.ref 220), (.type "object")], ns := 321, qualname := (cs [78, 101, 97, 114]), hasDict := true, slotNames := [], subclasses := [], abstract := false, collection := none, hasDel := false }), #[(some (.ref 292)), none, (some (.str (cs [78, 101, 97, 114]) 578)), (some (.str (cs [78, 101, 97, 114]) 586)), (some (.builtin "object.__new__")), (some (.bool true))]⟩
def k325 (p : Program) (P : Params) : Obj := ⟨(.type "tuple"), none, (.seq #[(.ref 220)] 0), #[]⟩
def k332 (p : Program) (P : Params) : Obj := ⟨(.type "tuple"), none, (.seq #[] 0), #[]⟩
def k334 (p : Program) (P : Params) : Obj := ⟨(.type "tuple"), none, (.seq #[(.str (cs [115, 101, 108, 102]) 636), (.str (cs [108, 97, 115, 116]) 637), (.str (cs [102, 105, 114, 115, 116]) 638), (.str (cs [111, 110]) 639)] 0), #[]⟩
def k335 (p : Program) (P : Params) : Obj := ⟨(.type "tuple"), none, (.seq #[] 0), #[]⟩
def k337 (p : Program) (P : Params) : Obj := ⟨(.type "code"), none, (.fields #[(.str (cs [100, 97, 121, 115]) 633), (.str (cs [76, 97, 115, 116, 87, 111, 114, 107, 46, 100, 97, 121, 115]) 634), (.str (cs [47, 99, 108, 97, 105, 109, 47, 99, 117, 116, 46, 112, 121]) 635), (.int (148) 0), (.int (3) 0), (.int (0) 0), (.int (0) 0), (.int (3) 0), (.ref 332), (.bool true), (.int (181) 0), (.ref 333), .none, (.ref 334), (.ref 335), (.ref 336), (.int (640) 0), (.int (148) 0), (.str (cs [47, 99, 108, 97, 105, 109, 47, 99, 117, 116, 46, 112, 121]) 641)]), #[]⟩
def k338 (p : Program) (P : Params) : Obj := ⟨(.type "function"), none, (.func (fnOf "days" "LastWork.days" (defArgs (inClass (tpS p 36) 0)) (defBody (inClass (tpS p 36) 0)) (defScope (inClass (tpS p 36) 0)) .none .none .none (.str (cs [102, 105, 118, 101, 102, 105, 101, 108, 100, 115, 46, 109, 97, 114, 107, 115]) 437) none (.ref 337) .none)), #[]⟩
def k339 (p : Program) (P : Params) : Obj := ⟨(.type "tuple"), none, (.seq #[] 0), #[]⟩
def k341 (p : Program) (P : Params) : Obj := ⟨(.type "tuple"), none, (.seq #[(.str (cs [115, 101, 108, 102]) 646)] 0), #[]⟩
def k342 (p : Program) (P : Params) : Obj := ⟨(.type "tuple"), none, (.seq #[] 0), #[]⟩
def k344 (p : Program) (P : Params) : Obj := ⟨(.type "code"), none, (.fields #[(.str (cs [116, 111, 108, 100]) 643), (.str (cs [76, 97, 115, 116, 87, 111, 114, 107, 46, 116, 111, 108, 100]) 644), (.str (cs [47, 99, 108, 97, 105, 109, 47, 99, 117, 116, 46, 112, 121]) 645), (.int (156) 0), (.int (1) 0), (.int (0) 0), (.int (0) 0), (.int (3) 0), (.ref 339), (.bool true), (.int (181) 0), (.ref 340), .none, (.ref 341), (.ref 342), (.ref 343), (.int (647) 0), (.int (156) 0), (.str (cs [47, 99, 108, 97, 105, 109, 47, 99, 117, 116, 46, 112, 121]) 648)]), #[]⟩
def k345 (p : Program) (P : Params) : Obj := ⟨(.type "function"), none, (.func (fnOf "told" "LastWork.told" (defArgs (inClass (tpS p 36) 1)) (defBody (inClass (tpS p 36) 1)) (defScope (inClass (tpS p 36) 1)) .none .none .none (.str (cs [102, 105, 118, 101, 102, 105, 101, 108, 100, 115, 46, 109, 97, 114, 107, 115]) 437) none (.ref 344) .none)), #[]⟩
def k346 (p : Program) (P : Params) : Obj := ⟨(.type "tuple"), none, (.seq #[] 0), #[]⟩
def k347 (p : Program) (P : Params) : Obj := ⟨(.type "dict"), none, (.dict [de P (cs [95, 95, 109, 111, 100, 117, 108, 101, 95, 95]) 628 (.str (cs [102, 105, 118, 101, 102, 105, 101, 108, 100, 115, 46, 109, 97, 114, 107, 115]) 437), de P (cs [95, 95, 102, 105, 114, 115, 116, 108, 105, 110, 101, 110, 111, 95, 95]) 632 (.int (146) 631), de P (cs [100, 97, 121, 115]) 642 (.ref 338), de P (cs [116, 111, 108, 100]) 649 (.ref 345), de P (cs [95, 95, 115, 116, 97, 116, 105, 99, 95, 97, 116, 116, 114, 105, 98, 117, 116, 101, 115, 95, 95]) 650 (.ref 346), de P (cs [95, 95, 100, 111, 99, 95, 95]) 651 .none].toArray 2), #[]⟩
def k348 (p : Program) (P : Params) : Obj := ⟨(.type "type"), none, (.cls { name := (cs [76, 97, 115, 116, 87, 111, 114, 107]), bases := [(.ref 220)], mro := [(.ref 348), (.ref 220), (.type "object")], ns := 347, qualname := (cs [76, 97, 115, 116, 87, 111, 114, 107]), hasDict := true, slotNames := [], subclasses := [], abstract := false, collection := none, hasDel := false }), #[(some (.ref 325)), none, (some (.str (cs [76, 97, 115, 116, 87, 111, 114, 107]) 621)), (some (.str (cs [76, 97, 115, 116, 87, 111, 114, 107]) 629)), (some (.builtin "object.__new__")), (some (.bool true))]⟩
def k351 (p : Program) (P : Params) : Obj := ⟨(.type "tuple"), none, (.seq #[(.ref 220)] 0), #[]⟩
def k358 (p : Program) (P : Params) : Obj := ⟨(.type "tuple"), none, (.seq #[] 0), #[]⟩
def k360 (p : Program) (P : Params) : Obj := ⟨(.type "tuple"), none, (.seq #[(.str (cs [115, 101, 108, 102]) 669), (.str (cs [109, 97, 115, 107]) 670)] 0), #[]⟩
def k361 (p : Program) (P : Params) : Obj := ⟨(.type "tuple"), none, (.seq #[] 0), #[]⟩
def k363 (p : Program) (P : Params) : Obj := ⟨(.type "code"), none, (.fields #[(.str (cs [95, 95, 105, 110, 105, 116, 95, 95]) 666), (.str (cs [87, 101, 101, 107, 100, 97, 121, 115, 46, 95, 95, 105, 110, 105, 116, 95, 95]) 667), (.str (cs [47, 99, 108, 97, 105, 109, 47, 99, 117, 116, 46, 112, 121]) 668), (.int (160) 0), (.int (2) 0), (.int (0) 0), (.int (0) 0), (.int (3) 0), (.ref 358), (.bool true), (.int (181) 0), (.ref 359), .none, (.ref 360), (.ref 361), (.ref 362), (.int (671) 0), (.int (160) 0), (.str (cs [47, 99, 108, 97, 105, 109, 47, 99, 117, 116, 46, 112, 121]) 672)]), #[]⟩
def k364 (p : Program) (P : Params) : Obj := ⟨(.type "function"), none, (.func (fnOf "__init__" "Weekdays.__init__" (defArgs (inClass (tpS p 37) 0)) (defBody (inClass (tpS p 37) 0)) (defScope (inClass (tpS p 37) 0)) .none .none .none (.str (cs [102, 105, 118, 101, 102, 105, 101, 108, 100, 115, 46, 109, 97, 114, 107, 115]) 437) none (.ref 363) .none)), #[]⟩
def k365 (p : Program) (P : Params) : Obj := ⟨(.type "tuple"), none, (.seq #[] 0), #[]⟩
def k367 (p : Program) (P : Params) : Obj := ⟨(.type "tuple"), none, (.seq #[(.str (cs [115, 101, 108, 102]) 677), (.str (cs [108, 97, 115, 116]) 678), (.str (cs [102, 105, 114, 115, 116]) 679), (.str (cs [102, 111, 117, 110, 100]) 680), (.str (cs [100, 97, 121]) 681)] 0), #[]⟩
def k368 (p : Program) (P : Params) : Obj := ⟨(.type "tuple"), none, (.seq #[] 0), #[]⟩
def k370 (p : Program) (P : Params) : Obj := ⟨(.type "code"), none, (.fields #[(.str (cs [100, 97, 121, 115]) 674), (.str (cs [87, 101, 101, 107, 100, 97, 121, 115, 46, 100, 97, 121, 115]) 675), (.str (cs [47, 99, 108, 97, 105, 109, 47, 99, 117, 116, 46, 112, 121]) 676), (.int (163) 0), (.int (3) 0), (.int (0) 0), (.int (0) 0), (.int (3) 0), (.ref 365), (.bool true), (.int (181) 0), (.ref 366), .none, (.ref 367), (.ref 368), (.ref 369), (.int (682) 0), (.int (163) 0), (.str (cs [47, 99, 108, 97, 105, 109, 47, 99, 117, 116, 46, 112, 121]) 683)]), #[]⟩
def k371 (p : Program) (P : Params) : Obj := ⟨(.type "function"), none, (.func (fnOf "days" "Weekdays.days" (defArgs (inClass (tpS p 37) 1)) (defBody (inClass (tpS p 37) 1)) (defScope (inClass (tpS p 37) 1)) .none .none .none (.str (cs [102, 105, 118, 101, 102, 105, 101, 108, 100, 115, 46, 109, 97, 114, 107, 115]) 437) none (.ref 370) .none)), #[]⟩
def k372 (p : Program) (P : Params) : Obj := ⟨(.type "tuple"), none, (.seq #[] 0), #[]⟩
def k374 (p : Program) (P : Params) : Obj := ⟨(.type "tuple"), none, (.seq #[(.str (cs [115, 101, 108, 102]) 688)] 0), #[]⟩
def k375 (p : Program) (P : Params) : Obj := ⟨(.type "tuple"), none, (.seq #[] 0), #[]⟩
def k377 (p : Program) (P : Params) : Obj := ⟨(.type "code"), none, (.fields #[(.str (cs [116, 111, 108, 100]) 685), (.str (cs [87, 101, 101, 107, 100, 97, 121, 115, 46, 116, 111, 108, 100]) 686), (.str (cs [47, 99, 108, 97, 105, 109, 47, 99, 117, 116, 46, 112, 121]) 687), (.int (170) 0), (.int (1) 0), (.int (0) 0), (.int (0) 0), (.int (3) 0), (.ref 372), (.bool true), (.int (181) 0), (.ref 373), .none, (.ref 374), (.ref 375), (.ref 376), (.int (689) 0), (.int (170) 0), (.str (cs [47, 99, 108, 97, 105, 109, 47, 99, 117, 116, 46, 112, 121]) 690)]), #[]⟩
def k378 (p : Program) (P : Params) : Obj := ⟨(.type "function"), none, (.func (fnOf "told" "Weekdays.told" (defArgs (inClass (tpS p 37) 2)) (defBody (inClass (tpS p 37) 2)) (defScope (inClass (tpS p 37) 2)) .none .none .none (.str (cs [102, 105, 118, 101, 102, 105, 101, 108, 100, 115, 46, 109, 97, 114, 107, 115]) 437) none (.ref 377) .none)), #[]⟩
def k379 (p : Program) (P : Params) : Obj := ⟨(.type "tuple"), none, (.seq #[(.str (cs [109, 97, 115, 107]) 692)] 0), #[]⟩
def k380 (p : Program) (P : Params) : Obj := ⟨(.type "dict"), none, (.dict [de P (cs [95, 95, 109, 111, 100, 117, 108, 101, 95, 95]) 661 (.str (cs [102, 105, 118, 101, 102, 105, 101, 108, 100, 115, 46, 109, 97, 114, 107, 115]) 437), de P (cs [95, 95, 102, 105, 114, 115, 116, 108, 105, 110, 101, 110, 111, 95, 95]) 665 (.int (158) 664), de P (cs [95, 95, 105, 110, 105, 116, 95, 95]) 673 (.ref 364), de P (cs [100, 97, 121, 115]) 684 (.ref 371), de P (cs [116, 111, 108, 100]) 691 (.ref 378), de P (cs [95, 95, 115, 116, 97, 116, 105, 99, 95, 97, 116, 116, 114, 105, 98, 117, 116, 101, 115, 95, 95]) 693 (.ref 379), de P (cs [95, 95, 100, 111, 99, 95, 95]) 694 .none].toArray 2), #[]⟩
def k381 (p : Program) (P : Params) : Obj := ⟨(.type "type"), none, (.cls { name := (cs [87, 101, 101, 107, 100, 97, 121, 115]), bases := [(.ref 220)], mro := [(.ref 381), (.ref 220), (.type "object")], ns := 380, qualname := (cs [87, 101, 101, 107, 100, 97, 121, 115]), hasDict := true, slotNames := [], subclasses := [], abstract := false, collection := none, hasDel := false }), #[(some (.ref 351)), none, (some (.str (cs [87, 101, 101, 107, 100, 97, 121, 115]) 654)), (some (.str (cs [87, 101, 101, 107, 100, 97, 121, 115]) 662)), (some (.builtin "object.__new__")), (some (.bool true))]⟩
def k384 (p : Program) (P : Params) : Obj := ⟨(.type "tuple"), none, (.seq #[(.ref 220)] 0), #[]⟩
def k391 (p : Program) (P : Params) : Obj := ⟨(.type "tuple"), none, (.seq #[] 0), #[]⟩
def k393 (p : Program) (P : Params) : Obj := ⟨(.type "tuple"), none, (.seq #[(.str (cs [115, 101, 108, 102]) 712), (.str (cs [119, 101, 101, 107, 100, 97, 121]) 713), (.str (cs [109, 97, 110, 121]) 714)] 0), #[]⟩
def k394 (p : Program) (P : Params) : Obj := ⟨(.type "tuple"), none, (.seq #[] 0), #[]⟩
def k396 (p : Program) (P : Params) : Obj := ⟨(.type "code"), none, (.fields #[(.str (cs [95, 95, 105, 110, 105, 116, 95, 95]) 709), (.str (cs [78, 116, 104, 46, 95, 95, 105, 110, 105, 116, 95, 95]) 710), (.str (cs [47, 99, 108, 97, 105, 109, 47, 99, 117, 116, 46, 112, 121]) 711), (.int (174) 0), (.int (3) 0), (.int (0) 0), (.int (0) 0), (.int (3) 0), (.ref 391), (.bool true), (.int (181) 0), (.ref 392), .none, (.ref 393), (.ref 394), (.ref 395), (.int (715) 0), (.int (174) 0), (.str (cs [47, 99, 108, 97, 105, 109, 47, 99, 117, 116, 46, 112, 121]) 716)]), #[]⟩
def k397 (p : Program) (P : Params) : Obj := ⟨(.type "function"), none, (.func (fnOf "__init__" "Nth.__init__" (defArgs (inClass (tpS p 38) 0)) (defBody (inClass (tpS p 38) 0)) (defScope (inClass (tpS p 38) 0)) .none .none .none (.str (cs [102, 105, 118, 101, 102, 105, 101, 108, 100, 115, 46, 109, 97, 114, 107, 115]) 437) none (.ref 396) .none)), #[]⟩
def k398 (p : Program) (P : Params) : Obj := ⟨(.type "tuple"), none, (.seq #[] 0), #[]⟩
def k400 (p : Program) (P : Params) : Obj := ⟨(.type "tuple"), none, (.seq #[(.str (cs [115, 101, 108, 102]) 721), (.str (cs [108, 97, 115, 116]) 722), (.str (cs [102, 105, 114, 115, 116]) 723), (.str (cs [100, 97, 121]) 724)] 0), #[]⟩
def k401 (p : Program) (P : Params) : Obj := ⟨(.type "tuple"), none, (.seq #[] 0), #[]⟩
def k403 (p : Program) (P : Params) : Obj := ⟨(.type "code"), none, (.fields #[(.str (cs [100, 97, 121, 115]) 718), (.str (cs [78, 116, 104, 46, 100, 97, 121, 115]) 719), (.str (cs [47, 99, 108, 97, 105, 109, 47, 99, 117, 116, 46, 112, 121]) 720), (.int (178) 0), (.int (3) 0), (.int (0) 0), (.int (0) 0), (.int (3) 0), (.ref 398), (.bool true), (.int (181) 0), (.ref 399), .none, (.ref 400), (.ref 401), (.ref 402), (.int (725) 0), (.int (178) 0), (.str (cs [47, 99, 108, 97, 105, 109, 47, 99, 117, 116, 46, 112, 121]) 726)]), #[]⟩
def k404 (p : Program) (P : Params) : Obj := ⟨(.type "function"), none, (.func (fnOf "days" "Nth.days" (defArgs (inClass (tpS p 38) 1)) (defBody (inClass (tpS p 38) 1)) (defScope (inClass (tpS p 38) 1)) .none .none .none (.str (cs [102, 105, 118, 101, 102, 105, 101, 108, 100, 115, 46, 109, 97, 114, 107, 115]) 437) none (.ref 403) .none)), #[]⟩
def k405 (p : Program) (P : Params) : Obj := ⟨(.type "tuple"), none, (.seq #[] 0), #[]⟩
def k407 (p : Program) (P : Params) : Obj := ⟨(.type "tuple"), none, (.seq #[(.str (cs [115, 101, 108, 102]) 731)] 0), #[]⟩
def k408 (p : Program) (P : Params) : Obj := ⟨(.type "tuple"), none, (.seq #[] 0), #[]⟩
def k410 (p : Program) (P : Params) : Obj := ⟨(.type "code"), none, (.fields #[(.str (cs [116, 111, 108, 100]) 728), (.str (cs [78, 116, 104, 46, 116, 111, 108, 100]) 729), (.str (cs [47, 99, 108, 97, 105, 109, 47, 99, 117, 116, 46, 112, 121]) 730), (.int (184) 0), (.int (1) 0), (.int (0) 0), (.int (0) 0), (.int (3) 0), (.ref 405), (.bool true), (.int (181) 0), (.ref 406), .none, (.ref 407), (.ref 408), (.ref 409), (.int (732) 0), (.int (184) 0), (.str (cs [47, 99, 108, 97, 105, 109, 47, 99, 117, 116, 46, 112, 121]) 733)]), #[]⟩
def k411 (p : Program) (P : Params) : Obj := ⟨(.type "function"), none, (.func (fnOf "told" "Nth.told" (defArgs (inClass (tpS p 38) 2)) (defBody (inClass (tpS p 38) 2)) (defScope (inClass (tpS p 38) 2)) .none .none .none (.str (cs [102, 105, 118, 101, 102, 105, 101, 108, 100, 115, 46, 109, 97, 114, 107, 115]) 437) none (.ref 410) .none)), #[]⟩
def k412 (p : Program) (P : Params) : Obj := ⟨(.type "tuple"), none, (.seq #[(.str (cs [109, 97, 110, 121]) 735), (.str (cs [119, 101, 101, 107, 100, 97, 121]) 736)] 0), #[]⟩
def k413 (p : Program) (P : Params) : Obj := ⟨(.type "dict"), none, (.dict [de P (cs [95, 95, 109, 111, 100, 117, 108, 101, 95, 95]) 704 (.str (cs [102, 105, 118, 101, 102, 105, 101, 108, 100, 115, 46, 109, 97, 114, 107, 115]) 437), de P (cs [95, 95, 102, 105, 114, 115, 116, 108, 105, 110, 101, 110, 111, 95, 95]) 708 (.int (172) 707), de P (cs [95, 95, 105, 110, 105, 116, 95, 95]) 717 (.ref 397), de P (cs [100, 97, 121, 115]) 727 (.ref 404), de P (cs [116, 111, 108, 100]) 734 (.ref 411), de P (cs [95, 95, 115, 116, 97, 116, 105, 99, 95, 97, 116, 116, 114, 105, 98, 117, 116, 101, 115, 95, 95]) 737 (.ref 412), de P (cs [95, 95, 100, 111, 99, 95, 95]) 738 .none].toArray 2), #[]⟩
def k414 (p : Program) (P : Params) : Obj := ⟨(.type "type"), none, (.cls { name := (cs [78, 116, 104]), bases := [(.ref 220)], mro := [(.ref 414), (.ref 220), (.type "object")], ns := 413, qualname := (cs [78, 116, 104]), hasDict := true, slotNames := [], subclasses := [], abstract := false, collection := none, hasDel := false }), #[(some (.ref 384)), none, (some (.str (cs [78, 116, 104]) 697)), (some (.str (cs [78, 116, 104]) 705)), (some (.builtin "object.__new__")), (some (.bool true))]⟩
def k417 (p : Program) (P : Params) : Obj := ⟨(.type "tuple"), none, (.seq #[(.ref 220)] 0), #[]⟩
def k424 (p : Program) (P : Params) : Obj := ⟨(.type "tuple"), none, (.seq #[] 0), #[]⟩
def k426 (p : Program) (P : Params) : Obj := ⟨(.type "tuple"), none, (.seq #[(.str (cs [115, 101, 108, 102]) 756), (.str (cs [119, 101, 101, 107, 100, 97, 121]) 757)] 0), #[]⟩
def k427 (p : Program) (P : Params) : Obj := ⟨(.type "tuple"), none, (.seq #[] 0), #[]⟩
def k429 (p : Program) (P : Params) : Obj := ⟨(.type "code"), none, (.fields #[(.str (cs [95, 95, 105, 110, 105, 116, 95, 95]) 753), (.str (cs [76, 97, 115, 116, 79, 110, 101, 46, 95, 95, 105, 110, 105, 116, 95, 95]) 754), (.str (cs [47, 99, 108, 97, 105, 109, 47, 99, 117, 116, 46, 112, 121]) 755), (.int (188) 0), (.int (2) 0), (.int (0) 0), (.int (0) 0), (.int (3) 0), (.ref 424), (.bool true), (.int (181) 0), (.ref 425), .none, (.ref 426), (.ref 427), (.ref 428), (.int (758) 0), (.int (188) 0), (.str (cs [47, 99, 108, 97, 105, 109, 47, 99, 117, 116, 46, 112, 121]) 759)]), #[]⟩
def k430 (p : Program) (P : Params) : Obj := ⟨(.type "function"), none, (.func (fnOf "__init__" "LastOne.__init__" (defArgs (inClass (tpS p 39) 0)) (defBody (inClass (tpS p 39) 0)) (defScope (inClass (tpS p 39) 0)) .none .none .none (.str (cs [102, 105, 118, 101, 102, 105, 101, 108, 100, 115, 46, 109, 97, 114, 107, 115]) 437) none (.ref 429) .none)), #[]⟩
def k431 (p : Program) (P : Params) : Obj := ⟨(.type "tuple"), none, (.seq #[] 0), #[]⟩
def k433 (p : Program) (P : Params) : Obj := ⟨(.type "tuple"), none, (.seq #[(.str (cs [115, 101, 108, 102]) 764), (.str (cs [108, 97, 115, 116]) 765), (.str (cs [102, 105, 114, 115, 116]) 766)] 0), #[]⟩
def k434 (p : Program) (P : Params) : Obj := ⟨(.type "tuple"), none, (.seq #[] 0), #[]⟩
def k436 (p : Program) (P : Params) : Obj := ⟨(.type "code"), none, (.fields #[(.str (cs [100, 97, 121, 115]) 761), (.str (cs [76, 97, 115, 116, 79, 110, 101, 46, 100, 97, 121, 115]) 762), (.str (cs [47, 99, 108, 97, 105, 109, 47, 99, 117, 116, 46, 112, 121]) 763), (.int (191) 0), (.int (3) 0), (.int (0) 0), (.int (0) 0), (.int (3) 0), (.ref 431), (.bool true), (.int (181) 0), (.ref 432), .none, (.ref 433), (.ref 434), (.ref 435), (.int (767) 0), (.int (191) 0), (.str (cs [47, 99, 108, 97, 105, 109, 47, 99, 117, 116, 46, 112, 121]) 768)]), #[]⟩
def k437 (p : Program) (P : Params) : Obj := ⟨(.type "function"), none, (.func (fnOf "days" "LastOne.days" (defArgs (inClass (tpS p 39) 1)) (defBody (inClass (tpS p 39) 1)) (defScope (inClass (tpS p 39) 1)) .none .none .none (.str (cs [102, 105, 118, 101, 102, 105, 101, 108, 100, 115, 46, 109, 97, 114, 107, 115]) 437) none (.ref 436) .none)), #[]⟩
def k438 (p : Program) (P : Params) : Obj := ⟨(.type "tuple"), none, (.seq #[] 0), #[]⟩
def k440 (p : Program) (P : Params) : Obj := ⟨(.type "tuple"), none, (.seq #[(.str (cs [115, 101, 108, 102]) 773)] 0), #[]⟩
def k441 (p : Program) (P : Params) : Obj := ⟨(.type "tuple"), none, (.seq #[] 0), #[]⟩
def k443 (p : Program) (P : Params) : Obj := ⟨(.type "code"), none, (.fields #[(.str (cs [116, 111, 108, 100]) 770), (.str (cs [76, 97, 115, 116, 79, 110, 101, 46, 116, 111, 108, 100]) 771), (.str (cs [47, 99, 108, 97, 105, 109, 47, 99, 117, 116, 46, 112, 121]) 772), (.int (194) 0), (.int (1) 0), (.int (0) 0), (.int (0) 0), (.int (3) 0), (.ref 438), (.bool true), (.int (181) 0), (.ref 439), .none, (.ref 440), (.ref 441), (.ref 442), (.int (774) 0), (.int (194) 0), (.str (cs [47, 99, 108, 97, 105, 109, 47, 99, 117, 116, 46, 112, 121]) 775)]), #[]⟩
def k444 (p : Program) (P : Params) : Obj := ⟨(.type "function"), none, (.func (fnOf "told" "LastOne.told" (defArgs (inClass (tpS p 39) 2)) (defBody (inClass (tpS p 39) 2)) (defScope (inClass (tpS p 39) 2)) .none .none .none (.str (cs [102, 105, 118, 101, 102, 105, 101, 108, 100, 115, 46, 109, 97, 114, 107, 115]) 437) none (.ref 443) .none)), #[]⟩
def k445 (p : Program) (P : Params) : Obj := ⟨(.type "tuple"), none, (.seq #[(.str (cs [119, 101, 101, 107, 100, 97, 121]) 777)] 0), #[]⟩
def k446 (p : Program) (P : Params) : Obj := ⟨(.type "dict"), none, (.dict [de P (cs [95, 95, 109, 111, 100, 117, 108, 101, 95, 95]) 748 (.str (cs [102, 105, 118, 101, 102, 105, 101, 108, 100, 115, 46, 109, 97, 114, 107, 115]) 437), de P (cs [95, 95, 102, 105, 114, 115, 116, 108, 105, 110, 101, 110, 111, 95, 95]) 752 (.int (186) 751), de P (cs [95, 95, 105, 110, 105, 116, 95, 95]) 760 (.ref 430), de P (cs [100, 97, 121, 115]) 769 (.ref 437), de P (cs [116, 111, 108, 100]) 776 (.ref 444), de P (cs [95, 95, 115, 116, 97, 116, 105, 99, 95, 97, 116, 116, 114, 105, 98, 117, 116, 101, 115, 95, 95]) 778 (.ref 445), de P (cs [95, 95, 100, 111, 99, 95, 95]) 779 .none].toArray 2), #[]⟩
def k447 (p : Program) (P : Params) : Obj := ⟨(.type "type"), none, (.cls { name := (cs [76, 97, 115, 116, 79, 110, 101]), bases := [(.ref 220)], mro := [(.ref 447), (.ref 220), (.type "object")], ns := 446, qualname := (cs [76, 97, 115, 116, 79, 110, 101]), hasDict := true, slotNames := [], subclasses := [], abstract := false, collection := none, hasDel := false }), #[(some (.ref 417)), none, (some (.str (cs [76, 97, 115, 116, 79, 110, 101]) 741)), (some (.str (cs [76, 97, 115, 116, 79, 110, 101]) 749)), (some (.builtin "object.__new__")), (some (.bool true))]⟩
def k450 (p : Program) (P : Params) : Obj := ⟨(.type "tuple"), none, (.seq #[] 0), #[]⟩
def k452 (p : Program) (P : Params) : Obj := ⟨(.type "tuple"), none, (.seq #[(.str (cs [116, 101, 120, 116]) 785), (.str (cs [108, 111, 119]) 786), (.str (cs [104, 105, 103, 104]) 787), (.str (cs [115, 105, 103, 110]) 788), (.str (cs [110, 117, 109, 98, 101, 114]) 789)] 0), #[]⟩
def k453 (p : Program) (P : Params) : Obj := ⟨(.type "tuple"), none, (.seq #[] 0), #[]⟩
def k455 (p : Program) (P : Params) : Obj := ⟨(.type "code"), none, (.fields #[(.str (cs [110, 117, 109, 98, 101, 114, 95, 105, 110]) 782), (.str (cs [110, 117, 109, 98, 101, 114, 95, 105, 110]) 783), (.str (cs [47, 99, 108, 97, 105, 109, 47, 99, 117, 116, 46, 112, 121]) 784), (.int (196) 0), (.int (3) 0), (.int (0) 0), (.int (0) 0), (.int (3) 0), (.ref 450), (.bool true), (.int (181) 0), (.ref 451), .none, (.ref 452), (.ref 453), (.ref 454), (.int (790) 0), (.int (196) 0), (.str (cs [47, 99, 108, 97, 105, 109, 47, 99, 117, 116, 46, 112, 121]) 791)]), #[]⟩
def k456 (p : Program) (P : Params) : Obj := ⟨(.type "function"), none, (.func (fnOf "number_in" "number_in" (defArgs (tpS p 40)) (defBody (tpS p 40)) (defScope (tpS p 40)) .none .none .none (.str (cs [102, 105, 118, 101, 102, 105, 101, 108, 100, 115, 46, 109, 97, 114, 107, 115]) 437) none (.ref 455) .none)), #[]⟩
def k457 (p : Program) (P : Params) : Obj := ⟨(.type "tuple"), none, (.seq #[] 0), #[]⟩
def k459 (p : Program) (P : Params) : Obj := ⟨(.type "tuple"), none, (.seq #[(.str (cs [105, 116, 101, 109]) 797), (.str (cs [110, 117, 109, 98, 101, 114]) 798)] 0), #[]⟩
def k460 (p : Program) (P : Params) : Obj := ⟨(.type "tuple"), none, (.seq #[] 0), #[]⟩
def k462 (p : Program) (P : Params) : Obj := ⟨(.type "code"), none, (.fields #[(.str (cs [100, 97, 121, 95, 109, 97, 114, 107]) 794), (.str (cs [100, 97, 121, 95, 109, 97, 114, 107]) 795), (.str (cs [47, 99, 108, 97, 105, 109, 47, 99, 117, 116, 46, 112, 121]) 796), (.int (209) 0), (.int (1) 0), (.int (0) 0), (.int (0) 0), (.int (3) 0), (.ref 457), (.bool true), (.int (181) 0), (.ref 458), .none, (.ref 459), (.ref 460), (.ref 461), (.int (799) 0), (.int (209) 0), (.str (cs [47, 99, 108, 97, 105, 109, 47, 99, 117, 116, 46, 112, 121]) 800)]), #[]⟩
def k463 (p : Program) (P : Params) : Obj := ⟨(.type "function"), none, (.func (fnOf "day_mark" "day_mark" (defArgs (tpS p 42)) (defBody (tpS p 42)) (defScope (tpS p 42)) .none .none .none (.str (cs [102, 105, 118, 101, 102, 105, 101, 108, 100, 115, 46, 109, 97, 114, 107, 115]) 437) none (.ref 462) .none)), #[]⟩
def k464 (p : Program) (P : Params) : Obj := ⟨(.type "tuple"), none, (.seq #[] 0), #[]⟩
def k466 (p : Program) (P : Params) : Obj := ⟨(.type "tuple"), none, (.seq #[(.str (cs [105, 116, 101, 109]) 805), (.str (cs [110, 117, 109, 98, 101, 114]) 806), (.str (cs [112, 97, 114, 116, 115]) 807), (.str (cs [109, 97, 110, 121]) 808)] 0), #[]⟩
def k467 (p : Program) (P : Params) : Obj := ⟨(.type "tuple"), none, (.seq #[] 0), #[]⟩
def k469 (p : Program) (P : Params) : Obj := ⟨(.type "code"), none, (.fields #[(.str (cs [119, 101, 101, 107, 100, 97, 121, 95, 109, 97, 114, 107]) 802), (.str (cs [119, 101, 101, 107, 100, 97, 121, 95, 109, 97, 114, 107]) 803), (.str (cs [47, 99, 108, 97, 105, 109, 47, 99, 117, 116, 46, 112, 121]) 804), (.int (223) 0), (.int (1) 0), (.int (0) 0), (.int (0) 0), (.int (3) 0), (.ref 464), (.bool true), (.int (181) 0), (.ref 465), .none, (.ref 466), (.ref 467), (.ref 468), (.int (809) 0), (.int (223) 0), (.str (cs [47, 99, 108, 97, 105, 109, 47, 99, 117, 116, 46, 112, 121]) 810)]), #[]⟩
def k470 (p : Program) (P : Params) : Obj := ⟨(.type "function"), none, (.func (fnOf "weekday_mark" "weekday_mark" (defArgs (tpS p 43)) (defBody (tpS p 43)) (defScope (tpS p 43)) .none .none .none (.str (cs [102, 105, 118, 101, 102, 105, 101, 108, 100, 115, 46, 109, 97, 114, 107, 115]) 437) none (.ref 469) .none)), #[]⟩
def k471 (p : Program) (P : Params) : Obj := ⟨(.type "tuple"), none, (.seq #[] 0), #[]⟩
def k473 (p : Program) (P : Params) : Obj := ⟨(.type "tuple"), none, (.seq #[(.str (cs [116, 101, 120, 116]) 815)] 0), #[]⟩
def k474 (p : Program) (P : Params) : Obj := ⟨(.type "tuple"), none, (.seq #[] 0), #[]⟩
def k476 (p : Program) (P : Params) : Obj := ⟨(.type "code"), none, (.fields #[(.str (cs [105, 116, 101, 109, 115, 95, 111, 102]) 812), (.str (cs [105, 116, 101, 109, 115, 95, 111, 102]) 813), (.str (cs [47, 99, 108, 97, 105, 109, 47, 99, 117, 116, 46, 112, 121]) 814), (.int (235) 0), (.int (1) 0), (.int (0) 0), (.int (0) 0), (.int (3) 0), (.ref 471), (.bool true), (.int (181) 0), (.ref 472), .none, (.ref 473), (.ref 474), (.ref 475), (.int (816) 0), (.int (235) 0), (.str (cs [47, 99, 108, 97, 105, 109, 47, 99, 117, 116, 46, 112, 121]) 817)]), #[]⟩
def k477 (p : Program) (P : Params) : Obj := ⟨(.type "function"), none, (.func (fnOf "items_of" "items_of" (defArgs (tpS p 44)) (defBody (tpS p 44)) (defScope (tpS p 44)) .none .none .none (.str (cs [102, 105, 118, 101, 102, 105, 101, 108, 100, 115, 46, 109, 97, 114, 107, 115]) 437) none (.ref 476) .none)), #[]⟩
def k478 (p : Program) (P : Params) : Obj := ⟨(.type "tuple"), none, (.seq #[] 0), #[]⟩
def k480 (p : Program) (P : Params) : Obj := ⟨(.type "tuple"), none, (.seq #[(.str (cs [105, 116, 101, 109]) 822), (.str (cs [97, 116]) 823), (.str (cs [108, 111, 119]) 824), (.str (cs [104, 105, 103, 104]) 825), (.str (cs [109, 97, 115, 107]) 826)] 0), #[]⟩
def k481 (p : Program) (P : Params) : Obj := ⟨(.type "tuple"), none, (.seq #[] 0), #[]⟩
def k483 (p : Program) (P : Params) : Obj := ⟨(.type "code"), none, (.fields #[(.str (cs [112, 108, 97, 105, 110, 95, 105, 116, 101, 109]) 819), (.str (cs [112, 108, 97, 105, 110, 95, 105, 116, 101, 109]) 820), (.str (cs [47, 99, 108, 97, 105, 109, 47, 99, 117, 116, 46, 112, 121]) 821), (.int (239) 0), (.int (4) 0), (.int (0) 0), (.int (0) 0), (.int (3) 0), (.ref 478), (.bool true), (.int (181) 0), (.ref 479), .none, (.ref 480), (.ref 481), (.ref 482), (.int (827) 0), (.int (239) 0), (.str (cs [47, 99, 108, 97, 105, 109, 47, 99, 117, 116, 46, 112, 121]) 828)]), #[]⟩
def k484 (p : Program) (P : Params) : Obj := ⟨(.type "function"), none, (.func (fnOf "plain_item" "plain_item" (defArgs (tpS p 45)) (defBody (tpS p 45)) (defScope (tpS p 45)) .none .none .none (.str (cs [102, 105, 118, 101, 102, 105, 101, 108, 100, 115, 46, 109, 97, 114, 107, 115]) 437) none (.ref 483) .none)), #[]⟩
def k485 (p : Program) (P : Params) : Obj := ⟨(.type "tuple"), none, (.seq #[] 0), #[]⟩
def k487 (p : Program) (P : Params) : Obj := ⟨(.type "tuple"), none, (.seq #[(.str (cs [116, 101, 120, 116]) 833), (.str (cs [109, 97, 114, 107, 101, 100]) 834), (.str (cs [108, 111, 119]) 835), (.str (cs [104, 105, 103, 104]) 836), (.str (cs [105, 116, 101, 109, 115]) 837), (.str (cs [109, 97, 115, 107]) 838), (.str (cs [109, 97, 114, 107, 115]) 839), (.str (cs [97, 116]) 840), (.str (cs [109, 97, 114, 107]) 841)] 0), #[]⟩
def k488 (p : Program) (P : Params) : Obj := ⟨(.type "tuple"), none, (.seq #[] 0), #[]⟩
def k490 (p : Program) (P : Params) : Obj := ⟨(.type "code"), none, (.fields #[(.str (cs [114, 101, 97, 100, 95, 105, 116, 101, 109, 115]) 830), (.str (cs [114, 101, 97, 100, 95, 105, 116, 101, 109, 115]) 831), (.str (cs [47, 99, 108, 97, 105, 109, 47, 99, 117, 116, 46, 112, 121]) 832), (.int (245) 0), (.int (4) 0), (.int (0) 0), (.int (0) 0), (.int (3) 0), (.ref 485), (.bool true), (.int (181) 0), (.ref 486), .none, (.ref 487), (.ref 488), (.ref 489), (.int (842) 0), (.int (245) 0), (.str (cs [47, 99, 108, 97, 105, 109, 47, 99, 117, 116, 46, 112, 121]) 843)]), #[]⟩
def k491 (p : Program) (P : Params) : Obj := ⟨(.type "function"), none, (.func (fnOf "read_items" "read_items" (defArgs (tpS p 46)) (defBody (tpS p 46)) (defScope (tpS p 46)) .none .none .none (.str (cs [102, 105, 118, 101, 102, 105, 101, 108, 100, 115, 46, 109, 97, 114, 107, 115]) 437) none (.ref 490) .none)), #[]⟩
def k492 (p : Program) (P : Params) : Obj := ⟨(.type "tuple"), none, (.seq #[] 0), #[]⟩
def k494 (p : Program) (P : Params) : Obj := ⟨(.type "tuple"), none, (.seq #[(.str (cs [116, 101, 120, 116]) 848), (.str (cs [109, 97, 115, 107]) 849), (.str (cs [109, 97, 114, 107, 115]) 850)] 0), #[]⟩
def k495 (p : Program) (P : Params) : Obj := ⟨(.type "tuple"), none, (.seq #[] 0), #[]⟩
def k497 (p : Program) (P : Params) : Obj := ⟨(.type "code"), none, (.fields #[(.str (cs [114, 101, 97, 100, 95, 100, 97, 121, 115]) 845), (.str (cs [114, 101, 97, 100, 95, 100, 97, 121, 115]) 846), (.str (cs [47, 99, 108, 97, 105, 109, 47, 99, 117, 116, 46, 112, 121]) 847), (.int (260) 0), (.int (1) 0), (.int (0) 0), (.int (0) 0), (.int (3) 0), (.ref 492), (.bool true), (.int (181) 0), (.ref 493), .none, (.ref 494), (.ref 495), (.ref 496), (.int (851) 0), (.int (260) 0), (.str (cs [47, 99, 108, 97, 105, 109, 47, 99, 117, 116, 46, 112, 121]) 852)]), #[]⟩
def k498 (p : Program) (P : Params) : Obj := ⟨(.type "function"), none, (.func (fnOf "read_days" "read_days" (defArgs (tpS p 47)) (defBody (tpS p 47)) (defScope (tpS p 47)) .none .none .none (.str (cs [102, 105, 118, 101, 102, 105, 101, 108, 100, 115, 46, 109, 97, 114, 107, 115]) 437) none (.ref 497) .none)), #[]⟩
def k499 (p : Program) (P : Params) : Obj := ⟨(.type "tuple"), none, (.seq #[] 0), #[]⟩
def k501 (p : Program) (P : Params) : Obj := ⟨(.type "tuple"), none, (.seq #[(.str (cs [116, 101, 120, 116]) 857), (.str (cs [109, 97, 115, 107]) 858), (.str (cs [109, 97, 114, 107, 115]) 859)] 0), #[]⟩
def k502 (p : Program) (P : Params) : Obj := ⟨(.type "tuple"), none, (.seq #[] 0), #[]⟩
def k504 (p : Program) (P : Params) : Obj := ⟨(.type "code"), none, (.fields #[(.str (cs [114, 101, 97, 100, 95, 119, 101, 101, 107, 100, 97, 121, 115]) 854), (.str (cs [114, 101, 97, 100, 95, 119, 101, 101, 107, 100, 97, 121, 115]) 855), (.str (cs [47, 99, 108, 97, 105, 109, 47, 99, 117, 116, 46, 112, 121]) 856), (.int (267) 0), (.int (1) 0), (.int (0) 0), (.int (0) 0), (.int (3) 0), (.ref 499), (.bool true), (.int (181) 0), (.ref 500), .none, (.ref 501), (.ref 502), (.ref 503), (.int (860) 0), (.int (267) 0), (.str (cs [47, 99, 108, 97, 105, 109, 47, 99, 117, 116, 46, 112, 121]) 861)]), #[]⟩
def k505 (p : Program) (P : Params) : Obj := ⟨(.type "function"), none, (.func (fnOf "read_weekdays" "read_weekdays" (defArgs (tpS p 48)) (defBody (tpS p 48)) (defScope (tpS p 48)) .none .none .none (.str (cs [102, 105, 118, 101, 102, 105, 101, 108, 100, 115, 46, 109, 97, 114, 107, 115]) 437) none (.ref 504) .none)), #[]⟩
def k506 (p : Program) (P : Params) : Obj := ⟨(.type "tuple"), none, (.seq #[] 0), #[]⟩
def k508 (p : Program) (P : Params) : Obj := ⟨(.type "tuple"), none, (.seq #[(.str (cs [95, 108, 97, 119, 95, 115, 99, 114, 105, 112, 116]) 868), (.str (cs [95, 108, 97, 119, 95, 107]) 869)] 0), #[]⟩
def k509 (p : Program) (P : Params) : Obj := ⟨(.type "tuple"), none, (.seq #[] 0), #[]⟩
def k511 (p : Program) (P : Params) : Obj := ⟨(.type "code"), none, (.fields #[(.str (cs [95, 108, 97, 119, 95, 99, 101, 108, 108, 95, 97, 116]) 865), (.str (cs [95, 108, 97, 119, 95, 99, 101, 108, 108, 95, 97, 116]) 866), (.str (cs [47, 99, 108, 97, 105, 109, 47, 99, 117, 116, 46, 112, 121]) 867), (.int (276) 0), (.int (2) 0), (.int (0) 0), (.int (0) 0), (.int (3) 0), (.ref 506), (.bool true), (.int (181) 0), (.ref 507), .none, (.ref 508), (.ref 509), (.ref 510), (.int (870) 0), (.int (276) 0), (.str (cs [47, 99, 108, 97, 105, 109, 47, 99, 117, 116, 46, 112, 121]) 871)]), #[]⟩
def k512 (p : Program) (P : Params) : Obj := ⟨(.type "function"), none, (.func (fnOf "_law_cell_at" "_law_cell_at" (defArgs (tpS p 50)) (defBody (tpS p 50)) (defScope (tpS p 50)) .none .none .none (.str (cs [108, 97, 119, 95, 102, 105, 118, 101, 102, 105, 101, 108, 100, 115, 95, 107, 51, 56, 95, 109, 97, 114, 107, 115, 95, 114, 101, 102, 117, 115, 101, 100]) 863) none (.ref 511) .none)), #[]⟩
def k513 (p : Program) (P : Params) : Obj := ⟨(.type "tuple"), none, (.seq #[] 0), #[]⟩
def k515 (p : Program) (P : Params) : Obj := ⟨(.type "tuple"), none, (.seq #[(.str (cs [95, 108, 97, 119, 95, 110, 117, 109, 98, 101, 114]) 876), (.str (cs [95, 108, 97, 119, 95, 102, 105, 114, 115, 116]) 877), (.str (cs [95, 108, 97, 119, 95, 115, 101, 99, 111, 110, 100]) 878)] 0), #[]⟩
def k516 (p : Program) (P : Params) : Obj := ⟨(.type "tuple"), none, (.seq #[] 0), #[]⟩
def k518 (p : Program) (P : Params) : Obj := ⟨(.type "code"), none, (.fields #[(.str (cs [95, 108, 97, 119, 95, 115, 116, 105, 114]) 873), (.str (cs [95, 108, 97, 119, 95, 115, 116, 105, 114]) 874), (.str (cs [47, 99, 108, 97, 105, 109, 47, 99, 117, 116, 46, 112, 121]) 875), (.int (280) 0), (.int (1) 0), (.int (0) 0), (.int (0) 0), (.int (3) 0), (.ref 513), (.bool true), (.int (181) 0), (.ref 514), .none, (.ref 515), (.ref 516), (.ref 517), (.int (879) 0), (.int (280) 0), (.str (cs [47, 99, 108, 97, 105, 109, 47, 99, 117, 116, 46, 112, 121]) 880)]), #[]⟩
def k519 (p : Program) (P : Params) : Obj := ⟨(.type "function"), none, (.func (fnOf "_law_stir" "_law_stir" (defArgs (tpS p 51)) (defBody (tpS p 51)) (defScope (tpS p 51)) .none .none .none (.str (cs [108, 97, 119, 95, 102, 105, 118, 101, 102, 105, 101, 108, 100, 115, 95, 107, 51, 56, 95, 109, 97, 114, 107, 115, 95, 114, 101, 102, 117, 115, 101, 100]) 863) none (.ref 518) .none)), #[]⟩
def k520 (p : Program) (P : Params) : Obj := ⟨(.type "tuple"), none, (.seq #[] 0), #[]⟩
def k522 (p : Program) (P : Params) : Obj := ⟨(.type "tuple"), none, (.seq #[(.str (cs [95, 108, 97, 119, 95, 99, 101, 108, 108]) 885), (.str (cs [95, 108, 97, 119, 95, 115, 105, 122, 101, 115]) 886), (.str (cs [95, 108, 97, 119, 95, 109, 105, 120, 101, 100]) 887), (.str (cs [95, 108, 97, 119, 95, 102, 111, 117, 110, 100]) 888), (.str (cs [95, 108, 97, 119, 95, 115, 105, 122, 101]) 889)] 0), #[]⟩
def k523 (p : Program) (P : Params) : Obj := ⟨(.type "tuple"), none, (.seq #[] 0), #[]⟩
def k525 (p : Program) (P : Params) : Obj := ⟨(.type "code"), none, (.fields #[(.str (cs [95, 108, 97, 119, 95, 100, 105, 103, 105, 116, 115]) 882), (.str (cs [95, 108, 97, 119, 95, 100, 105, 103, 105, 116, 115]) 883), (.str (cs [47, 99, 108, 97, 105, 109, 47, 99, 117, 116, 46, 112, 121]) 884), (.int (284) 0), (.int (3) 0), (.int (0) 0), (.int (0) 0), (.int (3) 0), (.ref 520), (.bool true), (.int (181) 0), (.ref 521), .none, (.ref 522), (.ref 523), (.ref 524), (.int (890) 0), (.int (284) 0), (.str (cs [47, 99, 108, 97, 105, 109, 47, 99, 117, 116, 46, 112, 121]) 891)]), #[]⟩
def k526 (p : Program) (P : Params) : Obj := ⟨(.type "function"), none, (.func (fnOf "_law_digits" "_law_digits" (defArgs (tpS p 52)) (defBody (tpS p 52)) (defScope (tpS p 52)) .none .none .none (.str (cs [108, 97, 119, 95, 102, 105, 118, 101, 102, 105, 101, 108, 100, 115, 95, 107, 51, 56, 95, 109, 97, 114, 107, 115, 95, 114, 101, 102, 117, 115, 101, 100]) 863) none (.ref 525) .none)), #[]⟩
def k527 (p : Program) (P : Params) : Obj := ⟨(.type "tuple"), none, (.seq #[] 0), #[]⟩
def k529 (p : Program) (P : Params) : Obj := ⟨(.type "tuple"), none, (.seq #[(.str (cs [95, 108, 97, 119, 95, 102, 111, 117, 110, 100]) 896)] 0), #[]⟩
def k530 (p : Program) (P : Params) : Obj := ⟨(.type "tuple"), none, (.seq #[] 0), #[]⟩
def k532 (p : Program) (P : Params) : Obj := ⟨(.type "code"), none, (.fields #[(.str (cs [95, 108, 97, 119, 95, 119, 104, 111, 108, 101]) 893), (.str (cs [95, 108, 97, 119, 95, 119, 104, 111, 108, 101]) 894), (.str (cs [47, 99, 108, 97, 105, 109, 47, 99, 117, 116, 46, 112, 121]) 895), (.int (295) 0), (.int (1) 0), (.int (0) 0), (.int (0) 0), (.int (3) 0), (.ref 527), (.bool true), (.int (181) 0), (.ref 528), .none, (.ref 529), (.ref 530), (.ref 531), (.int (897) 0), (.int (295) 0), (.str (cs [47, 99, 108, 97, 105, 109, 47, 99, 117, 116, 46, 112, 121]) 898)]), #[]⟩
def k533 (p : Program) (P : Params) : Obj := ⟨(.type "function"), none, (.func (fnOf "_law_whole" "_law_whole" (defArgs (tpS p 53)) (defBody (tpS p 53)) (defScope (tpS p 53)) .none .none .none (.str (cs [108, 97, 119, 95, 102, 105, 118, 101, 102, 105, 101, 108, 100, 115, 95, 107, 51, 56, 95, 109, 97, 114, 107, 115, 95, 114, 101, 102, 117, 115, 101, 100]) 863) none (.ref 532) .none)), #[]⟩
def k534 (p : Program) (P : Params) : Obj := ⟨(.type "tuple"), none, (.seq #[] 0), #[]⟩
def k536 (p : Program) (P : Params) : Obj := ⟨(.type "tuple"), none, (.seq #[(.str (cs [95, 108, 97, 119, 95, 116, 117, 114, 110]) 903), (.str (cs [95, 108, 97, 119, 95, 119, 101, 101, 107]) 904), (.str (cs [95, 108, 97, 119, 95, 109, 97, 114, 107]) 905)] 0), #[]⟩
def k537 (p : Program) (P : Params) : Obj := ⟨(.type "tuple"), none, (.seq #[] 0), #[]⟩
def k539 (p : Program) (P : Params) : Obj := ⟨(.type "code"), none, (.fields #[(.str (cs [95, 108, 97, 119, 95, 114, 105, 103, 104, 116]) 900), (.str (cs [95, 108, 97, 119, 95, 114, 105, 103, 104, 116]) 901), (.str (cs [47, 99, 108, 97, 105, 109, 47, 99, 117, 116, 46, 112, 121]) 902), (.int (297) 0), (.int (3) 0), (.int (0) 0), (.int (0) 0), (.int (3) 0), (.ref 534), (.bool true), (.int (181) 0), (.ref 535), .none, (.ref 536), (.ref 537), (.ref 538), (.int (906) 0), (.int (297) 0), (.str (cs [47, 99, 108, 97, 105, 109, 47, 99, 117, 116, 46, 112, 121]) 907)]), #[]⟩
def k540 (p : Program) (P : Params) : Obj := ⟨(.type "function"), none, (.func (fnOf "_law_right" "_law_right" (defArgs (tpS p 54)) (defBody (tpS p 54)) (defScope (tpS p 54)) .none .none .none (.str (cs [108, 97, 119, 95, 102, 105, 118, 101, 102, 105, 101, 108, 100, 115, 95, 107, 51, 56, 95, 109, 97, 114, 107, 115, 95, 114, 101, 102, 117, 115, 101, 100]) 863) none (.ref 539) .none)), #[]⟩
def k541 (p : Program) (P : Params) : Obj := ⟨(.type "tuple"), none, (.seq #[] 0), #[]⟩
def k543 (p : Program) (P : Params) : Obj := ⟨(.type "tuple"), none, (.seq #[(.str (cs [95, 108, 97, 119, 95, 116, 117, 114, 110]) 912), (.str (cs [95, 108, 97, 119, 95, 119, 101, 101, 107]) 913), (.str (cs [95, 108, 97, 119, 95, 115, 111, 109, 101]) 914), (.str (cs [95, 108, 97, 119, 95, 109, 111, 114, 101]) 915)] 0), #[]⟩
def k544 (p : Program) (P : Params) : Obj := ⟨(.type "tuple"), none, (.seq #[] 0), #[]⟩
def k546 (p : Program) (P : Params) : Obj := ⟨(.type "code"), none, (.fields #[(.str (cs [95, 108, 97, 119, 95, 119, 114, 111, 110, 103]) 909), (.str (cs [95, 108, 97, 119, 95, 119, 114, 111, 110, 103]) 910), (.str (cs [47, 99, 108, 97, 105, 109, 47, 99, 117, 116, 46, 112, 121]) 911), (.int (305) 0), (.int (2) 0), (.int (0) 0), (.int (0) 0), (.int (3) 0), (.ref 541), (.bool true), (.int (181) 0), (.ref 542), .none, (.ref 543), (.ref 544), (.ref 545), (.int (916) 0), (.int (305) 0), (.str (cs [47, 99, 108, 97, 105, 109, 47, 99, 117, 116, 46, 112, 121]) 917)]), #[]⟩
def k547 (p : Program) (P : Params) : Obj := ⟨(.type "function"), none, (.func (fnOf "_law_wrong" "_law_wrong" (defArgs (tpS p 55)) (defBody (tpS p 55)) (defScope (tpS p 55)) .none .none .none (.str (cs [108, 97, 119, 95, 102, 105, 118, 101, 102, 105, 101, 108, 100, 115, 95, 107, 51, 56, 95, 109, 97, 114, 107, 115, 95, 114, 101, 102, 117, 115, 101, 100]) 863) none (.ref 546) .none)), #[]⟩
def k548 (p : Program) (P : Params) : Obj := ⟨(.type "tuple"), none, (.seq #[] 0), #[]⟩
def k550 (p : Program) (P : Params) : Obj := ⟨(.type "tuple"), none, (.seq #[(.str (cs [95, 108, 97, 119, 95, 99, 101, 108, 108]) 922), (.str (cs [95, 108, 97, 119, 95, 116, 117, 114, 110, 115]) 923), (.str (cs [95, 108, 97, 119, 95, 119, 101, 101, 107]) 924), (.str (cs [95, 108, 97, 119, 95, 109, 105, 120, 101, 100]) 925), (.str (cs [95, 108, 97, 119, 95, 112, 97, 114, 116, 115]) 926), (.str (cs [95, 108, 97, 119, 95, 109, 97, 110, 121]) 927), (.str (cs [95, 108, 97, 119, 95, 115, 104, 97, 114, 101]) 928), (.str (cs [95, 108, 97, 119, 95, 105, 116, 101, 109, 115, 95, 104, 101, 114, 101]) 929), (.str (cs [95, 108, 97, 119, 95, 107]) 930), (.str (cs [95, 108, 97, 119, 95, 116, 117, 114, 110]) 931)] 0), #[]⟩
def k551 (p : Program) (P : Params) : Obj := ⟨(.type "tuple"), none, (.seq #[] 0), #[]⟩
def k553 (p : Program) (P : Params) : Obj := ⟨(.type "code"), none, (.fields #[(.str (cs [95, 108, 97, 119, 95, 105, 116, 101, 109, 115]) 919), (.str (cs [95, 108, 97, 119, 95, 105, 116, 101, 109, 115]) 920), (.str (cs [47, 99, 108, 97, 105, 109, 47, 99, 117, 116, 46, 112, 121]) 921), (.int (312) 0), (.int (4) 0), (.int (0) 0), (.int (0) 0), (.int (3) 0), (.ref 548), (.bool true), (.int (181) 0), (.ref 549), .none, (.ref 550), (.ref 551), (.ref 552), (.int (932) 0), (.int (312) 0), (.str (cs [47, 99, 108, 97, 105, 109, 47, 99, 117, 116, 46, 112, 121]) 933)]), #[]⟩
def k554 (p : Program) (P : Params) : Obj := ⟨(.type "function"), none, (.func (fnOf "_law_items" "_law_items" (defArgs (tpS p 56)) (defBody (tpS p 56)) (defScope (tpS p 56)) .none .none .none (.str (cs [108, 97, 119, 95, 102, 105, 118, 101, 102, 105, 101, 108, 100, 115, 95, 107, 51, 56, 95, 109, 97, 114, 107, 115, 95, 114, 101, 102, 117, 115, 101, 100]) 863) none (.ref 553) .none)), #[]⟩
def k555 (p : Program) (P : Params) : Obj := ⟨(.type "tuple"), none, (.seq #[] 0), #[]⟩
def k557 (p : Program) (P : Params) : Obj := ⟨(.type "tuple"), none, (.seq #[(.str (cs [95, 108, 97, 119, 95, 116, 101, 120, 116]) 938)] 0), #[]⟩
def k558 (p : Program) (P : Params) : Obj := ⟨(.type "tuple"), none, (.seq #[] 0), #[]⟩
def k560 (p : Program) (P : Params) : Obj := ⟨(.type "code"), none, (.fields #[(.str (cs [95, 108, 97, 119, 95, 105, 115, 95, 109, 97, 114, 107]) 935), (.str (cs [95, 108, 97, 119, 95, 105, 115, 95, 109, 97, 114, 107]) 936), (.str (cs [47, 99, 108, 97, 105, 109, 47, 99, 117, 116, 46, 112, 121]) 937), (.int (326) 0), (.int (1) 0), (.int (0) 0), (.int (0) 0), (.int (3) 0), (.ref 555), (.bool true), (.int (181) 0), (.ref 556), .none, (.ref 557), (.ref 558), (.ref 559), (.int (939) 0), (.int (326) 0), (.str (cs [47, 99, 108, 97, 105, 109, 47, 99, 117, 116, 46, 112, 121]) 940)]), #[]⟩
def k561 (p : Program) (P : Params) : Obj := ⟨(.type "function"), none, (.func (fnOf "_law_is_mark" "_law_is_mark" (defArgs (tpS p 57)) (defBody (tpS p 57)) (defScope (tpS p 57)) .none .none .none (.str (cs [108, 97, 119, 95, 102, 105, 118, 101, 102, 105, 101, 108, 100, 115, 95, 107, 51, 56, 95, 109, 97, 114, 107, 115, 95, 114, 101, 102, 117, 115, 101, 100]) 863) none (.ref 560) .none)), #[]⟩
def k562 (p : Program) (P : Params) : Obj := ⟨(.type "tuple"), none, (.seq #[] 0), #[]⟩
def k565 (p : Program) (P : Params) : Obj := ⟨(.type "code"), none, (.fields #[(.str (cs [95, 108, 97, 119, 95, 100, 117, 101]) 942), (.str (cs [95, 108, 97, 119, 95, 100, 117, 101]) 943), (.str (cs [47, 99, 108, 97, 105, 109, 47, 99, 117, 116, 46, 112, 121]) 944), (.int (328) 0), (.int (1) 0), (.int (0) 0), (.int (0) 0), (.int (3) 0), (.ref 562), (.bool true), (.int (181) 0), (.ref 563), .none, .none, .none, (.ref 564), (.int (945) 0), (.int (328) 0), (.str (cs [47, 99, 108, 97, 105, 109, 47, 99, 117, 116, 46, 112, 121]) 946)]), #[]⟩
def k566 (p : Program) (P : Params) : Obj := ⟨(.type "function"), none, (.func (fnOf "_law_due" "_law_due" (defArgs (tpS p 58)) (defBody (tpS p 58)) (defScope (tpS p 58)) .none .none .none (.str (cs [108, 97, 119, 95, 102, 105, 118, 101, 102, 105, 101, 108, 100, 115, 95, 107, 51, 56, 95, 109, 97, 114, 107, 115, 95, 114, 101, 102, 117, 115, 101, 100]) 863) none (.ref 565) .none)), #[]⟩
def k567 (p : Program) (P : Params) : Obj := ⟨(.type "tuple"), none, (.seq #[] 0), #[]⟩
def k569 (p : Program) (P : Params) : Obj := ⟨(.type "tuple"), none, (.seq #[(.str (cs [95, 108, 97, 119, 95, 116, 101, 120, 116]) 951), (.str (cs [95, 108, 97, 119, 95, 119, 101, 101, 107]) 952), (.str (cs [95, 108, 97, 119, 95, 102, 111, 117, 110, 100]) 953), (.str (cs [101]) 954)] 0), #[]⟩
def k570 (p : Program) (P : Params) : Obj := ⟨(.type "tuple"), none, (.seq #[] 0), #[]⟩
def k572 (p : Program) (P : Params) : Obj := ⟨(.type "code"), none, (.fields #[(.str (cs [95, 108, 97, 119, 95, 116, 111, 108, 100]) 948), (.str (cs [95, 108, 97, 119, 95, 116, 111, 108, 100]) 949), (.str (cs [47, 99, 108, 97, 105, 109, 47, 99, 117, 116, 46, 112, 121]) 950), (.int (339) 0), (.int (2) 0), (.int (0) 0), (.int (0) 0), (.int (3) 0), (.ref 567), (.bool true), (.int (181) 0), (.ref 568), .none, (.ref 569), (.ref 570), (.ref 571), (.int (955) 0), (.int (339) 0), (.str (cs [47, 99, 108, 97, 105, 109, 47, 99, 117, 116, 46, 112, 121]) 956)]), #[]⟩
def k573 (p : Program) (P : Params) : Obj := ⟨(.type "function"), none, (.func (fnOf "_law_told" "_law_told" (defArgs (tpS p 59)) (defBody (tpS p 59)) (defScope (tpS p 59)) .none .none .none (.str (cs [108, 97, 119, 95, 102, 105, 118, 101, 102, 105, 101, 108, 100, 115, 95, 107, 51, 56, 95, 109, 97, 114, 107, 115, 95, 114, 101, 102, 117, 115, 101, 100]) 863) none (.ref 572) .none)), #[]⟩
def k574 (p : Program) (P : Params) : Obj := ⟨(.type "tuple"), none, (.seq #[] 0), #[]⟩
def k576 (p : Program) (P : Params) : Obj := ⟨(.type "tuple"), none, (.seq #[(.str (cs [95, 108, 97, 119, 95, 119, 101, 101, 107]) 961), (.str (cs [95, 108, 97, 119, 95, 115, 111, 109, 101]) 962)] 0), #[]⟩
def k577 (p : Program) (P : Params) : Obj := ⟨(.type "tuple"), none, (.seq #[] 0), #[]⟩
def k579 (p : Program) (P : Params) : Obj := ⟨(.type "code"), none, (.fields #[(.str (cs [95, 108, 97, 119, 95, 108, 111, 110, 103, 101, 115, 116]) 958), (.str (cs [95, 108, 97, 119, 95, 108, 111, 110, 103, 101, 115, 116]) 959), (.str (cs [47, 99, 108, 97, 105, 109, 47, 99, 117, 116, 46, 112, 121]) 960), (.int (351) 0), (.int (1) 0), (.int (0) 0), (.int (0) 0), (.int (3) 0), (.ref 574), (.bool true), (.int (181) 0), (.ref 575), .none, (.ref 576), (.ref 577), (.ref 578), (.int (963) 0), (.int (351) 0), (.str (cs [47, 99, 108, 97, 105, 109, 47, 99, 117, 116, 46, 112, 121]) 964)]), #[]⟩
def k580 (p : Program) (P : Params) : Obj := ⟨(.type "function"), none, (.func (fnOf "_law_longest" "_law_longest" (defArgs (tpS p 60)) (defBody (tpS p 60)) (defScope (tpS p 60)) .none .none .none (.str (cs [108, 97, 119, 95, 102, 105, 118, 101, 102, 105, 101, 108, 100, 115, 95, 107, 51, 56, 95, 109, 97, 114, 107, 115, 95, 114, 101, 102, 117, 115, 101, 100]) 863) none (.ref 579) .none)), #[]⟩
def k581 (p : Program) (P : Params) : Obj := ⟨(.type "tuple"), none, (.seq #[] 0), #[]⟩
def k584 (p : Program) (P : Params) : Obj := ⟨(.type "code"), none, (.fields #[(.str (cs [108, 97, 119]) 966), (.str (cs [108, 97, 119]) 967), (.str (cs [47, 99, 108, 97, 105, 109, 47, 99, 117, 116, 46, 112, 121]) 968), (.int (358) 0), (.int (1) 0), (.int (0) 0), (.int (0) 0), (.int (3) 0), (.ref 581), (.bool true), (.int (181) 0), (.ref 582), .none, .none, .none, (.ref 583), (.int (969) 0), (.int (358) 0), (.str (cs [47, 99, 108, 97, 105, 109, 47, 99, 117, 116, 46, 112, 121]) 970)]), #[]⟩
def k585 (p : Program) (P : Params) : Obj := ⟨(.type "function"), none, (.func (fnOf "law" "law" (defArgs (tpS p 61)) (defBody (tpS p 61)) (defScope (tpS p 61)) .none .none .none (.str (cs [108, 97, 119, 95, 102, 105, 118, 101, 102, 105, 101, 108, 100, 115, 95, 107, 51, 56, 95, 109, 97, 114, 107, 115, 95, 114, 101, 102, 117, 115, 101, 100]) 863) none (.ref 584) .none)), #[]⟩
def Kt (p : Program) (P : Params) : Frag := (nat_lit 2, k2 p P) :: (nat_lit 3, k3 p P) :: (nat_lit 15, k15 p P) :: (nat_lit 17, k17 p P) :: (nat_lit 18, k18 p P) :: (nat_lit 20, k20 p P) :: (nat_lit 21, k21 p P) :: (nat_lit 22, k22 p P) :: (nat_lit 29, k29 p P) :: (nat_lit 30, k30 p P) :: (nat_lit 31, k31 p P) :: (nat_lit 32, k32 p P) :: (nat_lit 35, k35 p P) :: (nat_lit 42, k42 p P) :: (nat_lit 43, k43 p P) :: (nat_lit 44, k44 p P) :: (nat_lit 47, k47 p P) :: (nat_lit 54, k54 p P) :: (nat_lit 55, k55 p P) :: (nat_lit 56, k56 p P) :: (nat_lit 59, k59 p P) :: (nat_lit 66, k66 p P) :: (nat_lit 68, k68 p P) :: (nat_lit 69, k69 p P) :: (nat_lit 71, k71 p P) :: (nat_lit 72, k72 p P) :: (nat_lit 73, k73 p P) :: (nat_lit 74, k74 p P) :: (nat_lit 75, k75 p P) :: (nat_lit 78, k78 p P) :: (nat_lit 85, k85 p P) :: (nat_lit 87, k87 p P) :: (nat_lit 88, k88 p P) :: (nat_lit 90, k90 p P) :: (nat_lit 91, k91 p P) :: (nat_lit 92, k92 p P) :: (nat_lit 93, k93 p P) :: (nat_lit 94, k94 p P) :: (nat_lit 97, k97 p P) :: (nat_lit 104, k104 p P) :: (nat_lit 105, k105 p P) :: (nat_lit 106, k106 p P) :: (nat_lit 109, k109 p P) :: (nat_lit 116, k116 p P) :: (nat_lit 117, k117 p P) :: (nat_lit 118, k118 p P) :: (nat_lit 121, k121 p P) :: (nat_lit 128, k128 p P) :: (nat_lit 130, k130 p P) :: (nat_lit 131, k131 p P) :: (nat_lit 133, k133 p P) :: (nat_lit 134, k134 p P) :: (nat_lit 135, k135 p P) :: (nat_lit 136, k136 p P) :: (nat_lit 137, k137 p P) :: (nat_lit 140, k140 p P) :: (nat_lit 147, k147 p P) :: (nat_lit 148, k148 p P) :: (nat_lit 149, k149 p P) :: (nat_lit 152, k152 p P) :: (nat_lit 154, k154 p P) :: (nat_lit 155, k155 p P) :: (nat_lit 157, k157 p P) :: (nat_lit 158, k158 p P) :: (nat_lit 159, k159 p P) :: (nat_lit 161, k161 p P) :: (nat_lit 162, k162 p P) :: (nat_lit 164, k164 p P) :: (nat_lit 165, k165 p P) :: (nat_lit 166, k166 p P) :: (nat_lit 169, k169 p P) :: (nat_lit 170, k170 p P) :: (nat_lit 171, k171 p P) :: (nat_lit 174, k174 p P) :: (nat_lit 175, k175 p P) :: (nat_lit 176, k176 p P) :: (nat_lit 178, k178 p P) :: (nat_lit 179, k179 p P) :: (nat_lit 181, k181 p P) :: (nat_lit 182, k182 p P) :: (nat_lit 183, k183 p P) :: (nat_lit 185, k185 p P) :: (nat_lit 186, k186 p P) :: (nat_lit 188, k188 p P) :: (nat_lit 189, k189 p P) :: (nat_lit 190, k190 p P) :: (nat_lit 192, k192 p P) :: (nat_lit 193, k193 p P) :: (nat_lit 195, k195 p P) :: (nat_lit 196, k196 p P) :: (nat_lit 204, k204 p P) :: (nat_lit 206, k206 p P) :: (nat_lit 207, k207 p P) :: (nat_lit 209, k209 p P) :: (nat_lit 210, k210 p P) :: (nat_lit 211, k211 p P) :: (nat_lit 213, k213 p P) :: (nat_lit 214, k214 p P) :: (nat_lit 216, k216 p P) :: (nat_lit 217, k217 p P) :: (nat_lit 218, k218 p P) :: (nat_lit 219, k219 p P) :: (nat_lit 220, k220 p P) :: (nat_lit 221, k221 p P) :: (nat_lit 222, k222 p P) :: (nat_lit 225, k225 p P) :: (nat_lit 232, k232 p P) :: (nat_lit 234, k234 p P) :: (nat_lit 235, k235 p P) :: (nat_lit 237, k237 p P) :: (nat_lit 238, k238 p P) :: (nat_lit 239, k239 p P) :: (nat_lit 241, k241 p P) :: (nat_lit 242, k242 p P) :: (nat_lit 244, k244 p P) :: (nat_lit 245, k245 p P) :: (nat_lit 246, k246 p P) :: (nat_lit 248, k248 p P) :: (nat_lit 249, k249 p P) :: (nat_lit 251, k251 p P) :: (nat_lit 252, k252 p P) :: (nat_lit 253, k253 p P) :: (nat_lit 254, k254 p P) :: (nat_lit 255, k255 p P) :: (nat_lit 258, k258 p P) :: (nat_lit 265, k265 p P) :: (nat_lit 266, k266 p P) :: (nat_lit 268, k268 p P) :: (nat_lit 269, k269 p P) :: (nat_lit 271, k271 p P) :: (nat_lit 272, k272 p P) :: (nat_lit 273, k273 p P) :: (nat_lit 275, k275 p P) :: (nat_lit 276, k276 p P) :: (nat_lit 278, k278 p P) :: (nat_lit 279, k279 p P) :: (nat_lit 280, k280 p P) :: (nat_lit 282, k282 p P) :: (nat_lit 283, k283 p P) :: (nat_lit 285, k285 p P) :: (nat_lit 286, k286 p P) :: (nat_lit 287, k287 p P) :: (nat_lit 288, k288 p P) :: (nat_lit 289, k289 p P) :: (nat_lit 292, k292 p P) :: (nat_lit 299, k299 p P) :: (nat_lit 301, k301 p P) :: (nat_lit 302, k302 p P) :: (nat_lit 304, k304 p P) :: (nat_lit 305, k305 p P) :: (nat_lit 306, k306 p P) :: (nat_lit 308, k308 p P) :: (nat_lit 309, k309 p P) :: (nat_lit 311, k311 p P) :: (nat_lit 312, k312 p P) :: (nat_lit 313, k313 p P) :: (nat_lit 315, k315 p P) :: (nat_lit 316, k316 p P) :: (nat_lit 318, k318 p P) :: (nat_lit 319, k319 p P) :: (nat_lit 320, k320 p P) :: (nat_lit 321, k321 p P) :: (nat_lit 322, k322 p P) :: (nat_lit 325, k325 p P) :: (nat_lit 332, k332 p P) :: (nat_lit 334, k334 p P) :: (nat_lit 335, k335 p P) :: (nat_lit 337, k337 p P) :: (nat_lit 338, k338 p P) :: (nat_lit 339, k339 p P) :: (nat_lit 341, k341 p P) :: (nat_lit 342, k342 p P) :: (nat_lit 344, k344 p P) :: (nat_lit 345, k345 p P) :: (nat_lit 346, k346 p P) :: (nat_lit 347, k347 p P) :: (nat_lit 348, k348 p P) :: (nat_lit 351, k351 p P) :: (nat_lit 358, k358 p P) :: (nat_lit 360, k360 p P) :: (nat_lit 361, k361 p P) :: (nat_lit 363, k363 p P) :: (nat_lit 364, k364 p P) :: (nat_lit 365, k365 p P) :: (nat_lit 367, k367 p P) :: (nat_lit 368, k368 p P) :: (nat_lit 370, k370 p P) :: (nat_lit 371, k371 p P) :: (nat_lit 372, k372 p P) :: (nat_lit 374, k374 p P) :: (nat_lit 375, k375 p P) :: (nat_lit 377, k377 p P) :: (nat_lit 378, k378 p P) :: (nat_lit 379, k379 p P) :: (nat_lit 380, k380 p P) :: (nat_lit 381, k381 p P) :: (nat_lit 384, k384 p P) :: (nat_lit 391, k391 p P) :: (nat_lit 393, k393 p P) :: (nat_lit 394, k394 p P) :: (nat_lit 396, k396 p P) :: (nat_lit 397, k397 p P) :: (nat_lit 398, k398 p P) :: (nat_lit 400, k400 p P) :: (nat_lit 401, k401 p P) :: (nat_lit 403, k403 p P) :: (nat_lit 404, k404 p P) :: (nat_lit 405, k405 p P) :: (nat_lit 407, k407 p P) :: (nat_lit 408, k408 p P) :: (nat_lit 410, k410 p P) :: (nat_lit 411, k411 p P) :: (nat_lit 412, k412 p P) :: (nat_lit 413, k413 p P) :: (nat_lit 414, k414 p P) :: (nat_lit 417, k417 p P) :: (nat_lit 424, k424 p P) :: (nat_lit 426, k426 p P) :: (nat_lit 427, k427 p P) :: (nat_lit 429, k429 p P) :: (nat_lit 430, k430 p P) :: (nat_lit 431, k431 p P) :: (nat_lit 433, k433 p P) :: (nat_lit 434, k434 p P) :: (nat_lit 436, k436 p P) :: (nat_lit 437, k437 p P) :: (nat_lit 438, k438 p P) :: (nat_lit 440, k440 p P) :: (nat_lit 441, k441 p P) :: (nat_lit 443, k443 p P) :: (nat_lit 444, k444 p P) :: (nat_lit 445, k445 p P) :: (nat_lit 446, k446 p P) :: (nat_lit 447, k447 p P) :: (nat_lit 450, k450 p P) :: (nat_lit 452, k452 p P) :: (nat_lit 453, k453 p P) :: (nat_lit 455, k455 p P) :: (nat_lit 456, k456 p P) :: (nat_lit 457, k457 p P) :: (nat_lit 459, k459 p P) :: (nat_lit 460, k460 p P) :: (nat_lit 462, k462 p P) :: (nat_lit 463, k463 p P) :: (nat_lit 464, k464 p P) :: (nat_lit 466, k466 p P) :: (nat_lit 467, k467 p P) :: (nat_lit 469, k469 p P) :: (nat_lit 470, k470 p P) :: (nat_lit 471, k471 p P) :: (nat_lit 473, k473 p P) :: (nat_lit 474, k474 p P) :: (nat_lit 476, k476 p P) :: (nat_lit 477, k477 p P) :: (nat_lit 478, k478 p P) :: (nat_lit 480, k480 p P) :: (nat_lit 481, k481 p P) :: (nat_lit 483, k483 p P) :: (nat_lit 484, k484 p P) :: (nat_lit 485, k485 p P) :: (nat_lit 487, k487 p P) :: (nat_lit 488, k488 p P) :: (nat_lit 490, k490 p P) :: (nat_lit 491, k491 p P) :: (nat_lit 492, k492 p P) :: (nat_lit 494, k494 p P) :: (nat_lit 495, k495 p P) :: (nat_lit 497, k497 p P) :: (nat_lit 498, k498 p P) :: (nat_lit 499, k499 p P) :: (nat_lit 501, k501 p P) :: (nat_lit 502, k502 p P) :: (nat_lit 504, k504 p P) :: (nat_lit 505, k505 p P) :: (nat_lit 506, k506 p P) :: (nat_lit 508, k508 p P) :: (nat_lit 509, k509 p P) :: (nat_lit 511, k511 p P) :: (nat_lit 512, k512 p P) :: (nat_lit 513, k513 p P) :: (nat_lit 515, k515 p P) :: (nat_lit 516, k516 p P) :: (nat_lit 518, k518 p P) :: (nat_lit 519, k519 p P) :: (nat_lit 520, k520 p P) :: (nat_lit 522, k522 p P) :: (nat_lit 523, k523 p P) :: (nat_lit 525, k525 p P) :: (nat_lit 526, k526 p P) :: (nat_lit 527, k527 p P) :: (nat_lit 529, k529 p P) :: (nat_lit 530, k530 p P) :: (nat_lit 532, k532 p P) :: (nat_lit 533, k533 p P) :: (nat_lit 534, k534 p P) :: (nat_lit 536, k536 p P) :: (nat_lit 537, k537 p P) :: (nat_lit 539, k539 p P) :: (nat_lit 540, k540 p P) :: (nat_lit 541, k541 p P) :: (nat_lit 543, k543 p P) :: (nat_lit 544, k544 p P) :: (nat_lit 546, k546 p P) :: (nat_lit 547, k547 p P) :: (nat_lit 548, k548 p P) :: (nat_lit 550, k550 p P) :: (nat_lit 551, k551 p P) :: (nat_lit 553, k553 p P) :: (nat_lit 554, k554 p P) :: (nat_lit 555, k555 p P) :: (nat_lit 557, k557 p P) :: (nat_lit 558, k558 p P) :: (nat_lit 560, k560 p P) :: (nat_lit 561, k561 p P) :: (nat_lit 562, k562 p P) :: (nat_lit 565, k565 p P) :: (nat_lit 566, k566 p P) :: (nat_lit 567, k567 p P) :: (nat_lit 569, k569 p P) :: (nat_lit 570, k570 p P) :: (nat_lit 572, k572 p P) :: (nat_lit 573, k573 p P) :: (nat_lit 574, k574 p P) :: (nat_lit 576, k576 p P) :: (nat_lit 577, k577 p P) :: (nat_lit 579, k579 p P) :: (nat_lit 580, k580 p P) :: (nat_lit 581, k581 p P) :: (nat_lit 584, k584 p P) :: (nat_lit 585, k585 p P) :: []
def Kp (P : Params) : Frag := (nat_lit 2, k2 PySem.Challenge.pw_fivefields_k38_marks_refused P) :: (nat_lit 3, k3 PySem.Challenge.pw_fivefields_k38_marks_refused P) :: (nat_lit 15, k15 PySem.Challenge.pw_fivefields_k38_marks_refused P) :: (nat_lit 17, k17 PySem.Challenge.pw_fivefields_k38_marks_refused P) :: (nat_lit 18, k18 PySem.Challenge.pw_fivefields_k38_marks_refused P) :: (nat_lit 20, k20 PySem.Challenge.pw_fivefields_k38_marks_refused P) :: (nat_lit 21, k21 PySem.Challenge.pw_fivefields_k38_marks_refused P) :: (nat_lit 22, k22 PySem.Challenge.pw_fivefields_k38_marks_refused P) :: (nat_lit 29, k29 PySem.Challenge.pw_fivefields_k38_marks_refused P) :: (nat_lit 30, k30 PySem.Challenge.pw_fivefields_k38_marks_refused P) :: (nat_lit 31, k31 PySem.Challenge.pw_fivefields_k38_marks_refused P) :: (nat_lit 32, k32 PySem.Challenge.pw_fivefields_k38_marks_refused P) :: (nat_lit 35, k35 PySem.Challenge.pw_fivefields_k38_marks_refused P) :: (nat_lit 42, k42 PySem.Challenge.pw_fivefields_k38_marks_refused P) :: (nat_lit 43, k43 PySem.Challenge.pw_fivefields_k38_marks_refused P) :: (nat_lit 44, k44 PySem.Challenge.pw_fivefields_k38_marks_refused P) :: (nat_lit 47, k47 PySem.Challenge.pw_fivefields_k38_marks_refused P) :: (nat_lit 54, k54 PySem.Challenge.pw_fivefields_k38_marks_refused P) :: (nat_lit 55, k55 PySem.Challenge.pw_fivefields_k38_marks_refused P) :: (nat_lit 56, k56 PySem.Challenge.pw_fivefields_k38_marks_refused P) :: (nat_lit 59, k59 PySem.Challenge.pw_fivefields_k38_marks_refused P) :: (nat_lit 66, k66 PySem.Challenge.pw_fivefields_k38_marks_refused P) :: (nat_lit 68, k68 PySem.Challenge.pw_fivefields_k38_marks_refused P) :: (nat_lit 69, k69 PySem.Challenge.pw_fivefields_k38_marks_refused P) :: (nat_lit 71, k71 PySem.Challenge.pw_fivefields_k38_marks_refused P) :: (nat_lit 72, k72 PySem.Challenge.pw_fivefields_k38_marks_refused P) :: (nat_lit 73, k73 PySem.Challenge.pw_fivefields_k38_marks_refused P) :: (nat_lit 74, k74 PySem.Challenge.pw_fivefields_k38_marks_refused P) :: (nat_lit 75, k75 PySem.Challenge.pw_fivefields_k38_marks_refused P) :: (nat_lit 78, k78 PySem.Challenge.pw_fivefields_k38_marks_refused P) :: (nat_lit 85, k85 PySem.Challenge.pw_fivefields_k38_marks_refused P) :: (nat_lit 87, k87 PySem.Challenge.pw_fivefields_k38_marks_refused P) :: (nat_lit 88, k88 PySem.Challenge.pw_fivefields_k38_marks_refused P) :: (nat_lit 90, k90 PySem.Challenge.pw_fivefields_k38_marks_refused P) :: (nat_lit 91, k91 PySem.Challenge.pw_fivefields_k38_marks_refused P) :: (nat_lit 92, k92 PySem.Challenge.pw_fivefields_k38_marks_refused P) :: (nat_lit 93, k93 PySem.Challenge.pw_fivefields_k38_marks_refused P) :: (nat_lit 94, k94 PySem.Challenge.pw_fivefields_k38_marks_refused P) :: (nat_lit 97, k97 PySem.Challenge.pw_fivefields_k38_marks_refused P) :: (nat_lit 104, k104 PySem.Challenge.pw_fivefields_k38_marks_refused P) :: (nat_lit 105, k105 PySem.Challenge.pw_fivefields_k38_marks_refused P) :: (nat_lit 106, k106 PySem.Challenge.pw_fivefields_k38_marks_refused P) :: (nat_lit 109, k109 PySem.Challenge.pw_fivefields_k38_marks_refused P) :: (nat_lit 116, k116 PySem.Challenge.pw_fivefields_k38_marks_refused P) :: (nat_lit 117, k117 PySem.Challenge.pw_fivefields_k38_marks_refused P) :: (nat_lit 118, k118 PySem.Challenge.pw_fivefields_k38_marks_refused P) :: (nat_lit 121, k121 PySem.Challenge.pw_fivefields_k38_marks_refused P) :: (nat_lit 128, k128 PySem.Challenge.pw_fivefields_k38_marks_refused P) :: (nat_lit 130, k130 PySem.Challenge.pw_fivefields_k38_marks_refused P) :: (nat_lit 131, k131 PySem.Challenge.pw_fivefields_k38_marks_refused P) :: (nat_lit 133, k133 PySem.Challenge.pw_fivefields_k38_marks_refused P) :: (nat_lit 134, k134 PySem.Challenge.pw_fivefields_k38_marks_refused P) :: (nat_lit 135, k135 PySem.Challenge.pw_fivefields_k38_marks_refused P) :: (nat_lit 136, k136 PySem.Challenge.pw_fivefields_k38_marks_refused P) :: (nat_lit 137, k137 PySem.Challenge.pw_fivefields_k38_marks_refused P) :: (nat_lit 140, k140 PySem.Challenge.pw_fivefields_k38_marks_refused P) :: (nat_lit 147, k147 PySem.Challenge.pw_fivefields_k38_marks_refused P) :: (nat_lit 148, k148 PySem.Challenge.pw_fivefields_k38_marks_refused P) :: (nat_lit 149, k149 PySem.Challenge.pw_fivefields_k38_marks_refused P) :: (nat_lit 152, k152 PySem.Challenge.pw_fivefields_k38_marks_refused P) :: (nat_lit 154, k154 PySem.Challenge.pw_fivefields_k38_marks_refused P) :: (nat_lit 155, k155 PySem.Challenge.pw_fivefields_k38_marks_refused P) :: (nat_lit 157, k157 PySem.Challenge.pw_fivefields_k38_marks_refused P) :: (nat_lit 158, k158 PySem.Challenge.pw_fivefields_k38_marks_refused P) :: (nat_lit 159, k159 PySem.Challenge.pw_fivefields_k38_marks_refused P) :: (nat_lit 161, k161 PySem.Challenge.pw_fivefields_k38_marks_refused P) :: (nat_lit 162, k162 PySem.Challenge.pw_fivefields_k38_marks_refused P) :: (nat_lit 164, k164 PySem.Challenge.pw_fivefields_k38_marks_refused P) :: (nat_lit 165, k165 PySem.Challenge.pw_fivefields_k38_marks_refused P) :: (nat_lit 166, k166 PySem.Challenge.pw_fivefields_k38_marks_refused P) :: (nat_lit 169, k169 PySem.Challenge.pw_fivefields_k38_marks_refused P) :: (nat_lit 170, k170 PySem.Challenge.pw_fivefields_k38_marks_refused P) :: (nat_lit 171, k171 PySem.Challenge.pw_fivefields_k38_marks_refused P) :: (nat_lit 174, k174 PySem.Challenge.pw_fivefields_k38_marks_refused P) :: (nat_lit 175, k175 PySem.Challenge.pw_fivefields_k38_marks_refused P) :: (nat_lit 176, k176 PySem.Challenge.pw_fivefields_k38_marks_refused P) :: (nat_lit 178, k178 PySem.Challenge.pw_fivefields_k38_marks_refused P) :: (nat_lit 179, k179 PySem.Challenge.pw_fivefields_k38_marks_refused P) :: (nat_lit 181, k181 PySem.Challenge.pw_fivefields_k38_marks_refused P) :: (nat_lit 182, k182 PySem.Challenge.pw_fivefields_k38_marks_refused P) :: (nat_lit 183, k183 PySem.Challenge.pw_fivefields_k38_marks_refused P) :: (nat_lit 185, k185 PySem.Challenge.pw_fivefields_k38_marks_refused P) :: (nat_lit 186, k186 PySem.Challenge.pw_fivefields_k38_marks_refused P) :: (nat_lit 188, k188 PySem.Challenge.pw_fivefields_k38_marks_refused P) :: (nat_lit 189, k189 PySem.Challenge.pw_fivefields_k38_marks_refused P) :: (nat_lit 190, k190 PySem.Challenge.pw_fivefields_k38_marks_refused P) :: (nat_lit 192, k192 PySem.Challenge.pw_fivefields_k38_marks_refused P) :: (nat_lit 193, k193 PySem.Challenge.pw_fivefields_k38_marks_refused P) :: (nat_lit 195, k195 PySem.Challenge.pw_fivefields_k38_marks_refused P) :: (nat_lit 196, k196 PySem.Challenge.pw_fivefields_k38_marks_refused P) :: (nat_lit 204, k204 PySem.Challenge.pw_fivefields_k38_marks_refused P) :: (nat_lit 206, k206 PySem.Challenge.pw_fivefields_k38_marks_refused P) :: (nat_lit 207, k207 PySem.Challenge.pw_fivefields_k38_marks_refused P) :: (nat_lit 209, k209 PySem.Challenge.pw_fivefields_k38_marks_refused P) :: (nat_lit 210, k210 PySem.Challenge.pw_fivefields_k38_marks_refused P) :: (nat_lit 211, k211 PySem.Challenge.pw_fivefields_k38_marks_refused P) :: (nat_lit 213, k213 PySem.Challenge.pw_fivefields_k38_marks_refused P) :: (nat_lit 214, k214 PySem.Challenge.pw_fivefields_k38_marks_refused P) :: (nat_lit 216, k216 PySem.Challenge.pw_fivefields_k38_marks_refused P) :: (nat_lit 217, k217 PySem.Challenge.pw_fivefields_k38_marks_refused P) :: (nat_lit 218, k218 PySem.Challenge.pw_fivefields_k38_marks_refused P) :: (nat_lit 219, k219 PySem.Challenge.pw_fivefields_k38_marks_refused P) :: (nat_lit 220, k220 PySem.Challenge.pw_fivefields_k38_marks_refused P) :: (nat_lit 221, k221 PySem.Challenge.pw_fivefields_k38_marks_refused P) :: (nat_lit 222, k222 PySem.Challenge.pw_fivefields_k38_marks_refused P) :: (nat_lit 225, k225 PySem.Challenge.pw_fivefields_k38_marks_refused P) :: (nat_lit 232, k232 PySem.Challenge.pw_fivefields_k38_marks_refused P) :: (nat_lit 234, k234 PySem.Challenge.pw_fivefields_k38_marks_refused P) :: (nat_lit 235, k235 PySem.Challenge.pw_fivefields_k38_marks_refused P) :: (nat_lit 237, k237 PySem.Challenge.pw_fivefields_k38_marks_refused P) :: (nat_lit 238, k238 PySem.Challenge.pw_fivefields_k38_marks_refused P) :: (nat_lit 239, k239 PySem.Challenge.pw_fivefields_k38_marks_refused P) :: (nat_lit 241, k241 PySem.Challenge.pw_fivefields_k38_marks_refused P) :: (nat_lit 242, k242 PySem.Challenge.pw_fivefields_k38_marks_refused P) :: (nat_lit 244, k244 PySem.Challenge.pw_fivefields_k38_marks_refused P) :: (nat_lit 245, k245 PySem.Challenge.pw_fivefields_k38_marks_refused P) :: (nat_lit 246, k246 PySem.Challenge.pw_fivefields_k38_marks_refused P) :: (nat_lit 248, k248 PySem.Challenge.pw_fivefields_k38_marks_refused P) :: (nat_lit 249, k249 PySem.Challenge.pw_fivefields_k38_marks_refused P) :: (nat_lit 251, k251 PySem.Challenge.pw_fivefields_k38_marks_refused P) :: (nat_lit 252, k252 PySem.Challenge.pw_fivefields_k38_marks_refused P) :: (nat_lit 253, k253 PySem.Challenge.pw_fivefields_k38_marks_refused P) :: (nat_lit 254, k254 PySem.Challenge.pw_fivefields_k38_marks_refused P) :: (nat_lit 255, k255 PySem.Challenge.pw_fivefields_k38_marks_refused P) :: (nat_lit 258, k258 PySem.Challenge.pw_fivefields_k38_marks_refused P) :: (nat_lit 265, k265 PySem.Challenge.pw_fivefields_k38_marks_refused P) :: (nat_lit 266, k266 PySem.Challenge.pw_fivefields_k38_marks_refused P) :: (nat_lit 268, k268 PySem.Challenge.pw_fivefields_k38_marks_refused P) :: (nat_lit 269, k269 PySem.Challenge.pw_fivefields_k38_marks_refused P) :: (nat_lit 271, k271 PySem.Challenge.pw_fivefields_k38_marks_refused P) :: (nat_lit 272, k272 PySem.Challenge.pw_fivefields_k38_marks_refused P) :: (nat_lit 273, k273 PySem.Challenge.pw_fivefields_k38_marks_refused P) :: (nat_lit 275, k275 PySem.Challenge.pw_fivefields_k38_marks_refused P) :: (nat_lit 276, k276 PySem.Challenge.pw_fivefields_k38_marks_refused P) :: (nat_lit 278, k278 PySem.Challenge.pw_fivefields_k38_marks_refused P) :: (nat_lit 279, k279 PySem.Challenge.pw_fivefields_k38_marks_refused P) :: (nat_lit 280, k280 PySem.Challenge.pw_fivefields_k38_marks_refused P) :: (nat_lit 282, k282 PySem.Challenge.pw_fivefields_k38_marks_refused P) :: (nat_lit 283, k283 PySem.Challenge.pw_fivefields_k38_marks_refused P) :: (nat_lit 285, k285 PySem.Challenge.pw_fivefields_k38_marks_refused P) :: (nat_lit 286, k286 PySem.Challenge.pw_fivefields_k38_marks_refused P) :: (nat_lit 287, k287 PySem.Challenge.pw_fivefields_k38_marks_refused P) :: (nat_lit 288, k288 PySem.Challenge.pw_fivefields_k38_marks_refused P) :: (nat_lit 289, k289 PySem.Challenge.pw_fivefields_k38_marks_refused P) :: (nat_lit 292, k292 PySem.Challenge.pw_fivefields_k38_marks_refused P) :: (nat_lit 299, k299 PySem.Challenge.pw_fivefields_k38_marks_refused P) :: (nat_lit 301, k301 PySem.Challenge.pw_fivefields_k38_marks_refused P) :: (nat_lit 302, k302 PySem.Challenge.pw_fivefields_k38_marks_refused P) :: (nat_lit 304, k304 PySem.Challenge.pw_fivefields_k38_marks_refused P) :: (nat_lit 305, k305 PySem.Challenge.pw_fivefields_k38_marks_refused P) :: (nat_lit 306, k306 PySem.Challenge.pw_fivefields_k38_marks_refused P) :: (nat_lit 308, k308 PySem.Challenge.pw_fivefields_k38_marks_refused P) :: (nat_lit 309, k309 PySem.Challenge.pw_fivefields_k38_marks_refused P) :: (nat_lit 311, k311 PySem.Challenge.pw_fivefields_k38_marks_refused P) :: (nat_lit 312, k312 PySem.Challenge.pw_fivefields_k38_marks_refused P) :: (nat_lit 313, k313 PySem.Challenge.pw_fivefields_k38_marks_refused P) :: (nat_lit 315, k315 PySem.Challenge.pw_fivefields_k38_marks_refused P) :: (nat_lit 316, k316 PySem.Challenge.pw_fivefields_k38_marks_refused P) :: (nat_lit 318, k318 PySem.Challenge.pw_fivefields_k38_marks_refused P) :: (nat_lit 319, k319 PySem.Challenge.pw_fivefields_k38_marks_refused P) :: (nat_lit 320, k320 PySem.Challenge.pw_fivefields_k38_marks_refused P) :: (nat_lit 321, k321 PySem.Challenge.pw_fivefields_k38_marks_refused P) :: (nat_lit 322, k322 PySem.Challenge.pw_fivefields_k38_marks_refused P) :: (nat_lit 325, k325 PySem.Challenge.pw_fivefields_k38_marks_refused P) :: (nat_lit 332, k332 PySem.Challenge.pw_fivefields_k38_marks_refused P) :: (nat_lit 334, k334 PySem.Challenge.pw_fivefields_k38_marks_refused P) :: (nat_lit 335, k335 PySem.Challenge.pw_fivefields_k38_marks_refused P) :: (nat_lit 337, k337 PySem.Challenge.pw_fivefields_k38_marks_refused P) :: (nat_lit 338, k338 PySem.Challenge.pw_fivefields_k38_marks_refused P) :: (nat_lit 339, k339 PySem.Challenge.pw_fivefields_k38_marks_refused P) :: (nat_lit 341, k341 PySem.Challenge.pw_fivefields_k38_marks_refused P) :: (nat_lit 342, k342 PySem.Challenge.pw_fivefields_k38_marks_refused P) :: (nat_lit 344, k344 PySem.Challenge.pw_fivefields_k38_marks_refused P) :: (nat_lit 345, k345 PySem.Challenge.pw_fivefields_k38_marks_refused P) :: (nat_lit 346, k346 PySem.Challenge.pw_fivefields_k38_marks_refused P) :: (nat_lit 347, k347 PySem.Challenge.pw_fivefields_k38_marks_refused P) :: (nat_lit 348, k348 PySem.Challenge.pw_fivefields_k38_marks_refused P) :: (nat_lit 351, k351 PySem.Challenge.pw_fivefields_k38_marks_refused P) :: (nat_lit 358, k358 PySem.Challenge.pw_fivefields_k38_marks_refused P) :: (nat_lit 360, k360 PySem.Challenge.pw_fivefields_k38_marks_refused P) :: (nat_lit 361, k361 PySem.Challenge.pw_fivefields_k38_marks_refused P) :: (nat_lit 363, k363 PySem.Challenge.pw_fivefields_k38_marks_refused P) :: (nat_lit 364, k364 PySem.Challenge.pw_fivefields_k38_marks_refused P) :: (nat_lit 365, k365 PySem.Challenge.pw_fivefields_k38_marks_refused P) :: (nat_lit 367, k367 PySem.Challenge.pw_fivefields_k38_marks_refused P) :: (nat_lit 368, k368 PySem.Challenge.pw_fivefields_k38_marks_refused P) :: (nat_lit 370, k370 PySem.Challenge.pw_fivefields_k38_marks_refused P) :: (nat_lit 371, k371 PySem.Challenge.pw_fivefields_k38_marks_refused P) :: (nat_lit 372, k372 PySem.Challenge.pw_fivefields_k38_marks_refused P) :: (nat_lit 374, k374 PySem.Challenge.pw_fivefields_k38_marks_refused P) :: (nat_lit 375, k375 PySem.Challenge.pw_fivefields_k38_marks_refused P) :: (nat_lit 377, k377 PySem.Challenge.pw_fivefields_k38_marks_refused P) :: (nat_lit 378, k378 PySem.Challenge.pw_fivefields_k38_marks_refused P) :: (nat_lit 379, k379 PySem.Challenge.pw_fivefields_k38_marks_refused P) :: (nat_lit 380, k380 PySem.Challenge.pw_fivefields_k38_marks_refused P) :: (nat_lit 381, k381 PySem.Challenge.pw_fivefields_k38_marks_refused P) :: (nat_lit 384, k384 PySem.Challenge.pw_fivefields_k38_marks_refused P) :: (nat_lit 391, k391 PySem.Challenge.pw_fivefields_k38_marks_refused P) :: (nat_lit 393, k393 PySem.Challenge.pw_fivefields_k38_marks_refused P) :: (nat_lit 394, k394 PySem.Challenge.pw_fivefields_k38_marks_refused P) :: (nat_lit 396, k396 PySem.Challenge.pw_fivefields_k38_marks_refused P) :: (nat_lit 397, k397 PySem.Challenge.pw_fivefields_k38_marks_refused P) :: (nat_lit 398, k398 PySem.Challenge.pw_fivefields_k38_marks_refused P) :: (nat_lit 400, k400 PySem.Challenge.pw_fivefields_k38_marks_refused P) :: (nat_lit 401, k401 PySem.Challenge.pw_fivefields_k38_marks_refused P) :: (nat_lit 403, k403 PySem.Challenge.pw_fivefields_k38_marks_refused P) :: (nat_lit 404, k404 PySem.Challenge.pw_fivefields_k38_marks_refused P) :: (nat_lit 405, k405 PySem.Challenge.pw_fivefields_k38_marks_refused P) :: (nat_lit 407, k407 PySem.Challenge.pw_fivefields_k38_marks_refused P) :: (nat_lit 408, k408 PySem.Challenge.pw_fivefields_k38_marks_refused P) :: (nat_lit 410, k410 PySem.Challenge.pw_fivefields_k38_marks_refused P) :: (nat_lit 411, k411 PySem.Challenge.pw_fivefields_k38_marks_refused P) :: (nat_lit 412, k412 PySem.Challenge.pw_fivefields_k38_marks_refused P) :: (nat_lit 413, k413 PySem.Challenge.pw_fivefields_k38_marks_refused P) :: (nat_lit 414, k414 PySem.Challenge.pw_fivefields_k38_marks_refused P) :: (nat_lit 417, k417 PySem.Challenge.pw_fivefields_k38_marks_refused P) :: (nat_lit 424, k424 PySem.Challenge.pw_fivefields_k38_marks_refused P) :: (nat_lit 426, k426 PySem.Challenge.pw_fivefields_k38_marks_refused P) :: (nat_lit 427, k427 PySem.Challenge.pw_fivefields_k38_marks_refused P) :: (nat_lit 429, k429 PySem.Challenge.pw_fivefields_k38_marks_refused P) :: (nat_lit 430, k430 PySem.Challenge.pw_fivefields_k38_marks_refused P) :: (nat_lit 431, k431 PySem.Challenge.pw_fivefields_k38_marks_refused P) :: (nat_lit 433, k433 PySem.Challenge.pw_fivefields_k38_marks_refused P) :: (nat_lit 434, k434 PySem.Challenge.pw_fivefields_k38_marks_refused P) :: (nat_lit 436, k436 PySem.Challenge.pw_fivefields_k38_marks_refused P) :: (nat_lit 437, k437 PySem.Challenge.pw_fivefields_k38_marks_refused P) :: (nat_lit 438, k438 PySem.Challenge.pw_fivefields_k38_marks_refused P) :: (nat_lit 440, k440 PySem.Challenge.pw_fivefields_k38_marks_refused P) :: (nat_lit 441, k441 PySem.Challenge.pw_fivefields_k38_marks_refused P) :: (nat_lit 443, k443 PySem.Challenge.pw_fivefields_k38_marks_refused P) :: (nat_lit 444, k444 PySem.Challenge.pw_fivefields_k38_marks_refused P) :: (nat_lit 445, k445 PySem.Challenge.pw_fivefields_k38_marks_refused P) :: (nat_lit 446, k446 PySem.Challenge.pw_fivefields_k38_marks_refused P) :: (nat_lit 447, k447 PySem.Challenge.pw_fivefields_k38_marks_refused P) :: (nat_lit 450, k450 PySem.Challenge.pw_fivefields_k38_marks_refused P) :: (nat_lit 452, k452 PySem.Challenge.pw_fivefields_k38_marks_refused P) :: (nat_lit 453, k453 PySem.Challenge.pw_fivefields_k38_marks_refused P) :: (nat_lit 455, k455 PySem.Challenge.pw_fivefields_k38_marks_refused P) :: (nat_lit 456, k456 PySem.Challenge.pw_fivefields_k38_marks_refused P) :: (nat_lit 457, k457 PySem.Challenge.pw_fivefields_k38_marks_refused P) :: (nat_lit 459, k459 PySem.Challenge.pw_fivefields_k38_marks_refused P) :: (nat_lit 460, k460 PySem.Challenge.pw_fivefields_k38_marks_refused P) :: (nat_lit 462, k462 PySem.Challenge.pw_fivefields_k38_marks_refused P) :: (nat_lit 463, k463 PySem.Challenge.pw_fivefields_k38_marks_refused P) :: (nat_lit 464, k464 PySem.Challenge.pw_fivefields_k38_marks_refused P) :: (nat_lit 466, k466 PySem.Challenge.pw_fivefields_k38_marks_refused P) :: (nat_lit 467, k467 PySem.Challenge.pw_fivefields_k38_marks_refused P) :: (nat_lit 469, k469 PySem.Challenge.pw_fivefields_k38_marks_refused P) :: (nat_lit 470, k470 PySem.Challenge.pw_fivefields_k38_marks_refused P) :: (nat_lit 471, k471 PySem.Challenge.pw_fivefields_k38_marks_refused P) :: (nat_lit 473, k473 PySem.Challenge.pw_fivefields_k38_marks_refused P) :: (nat_lit 474, k474 PySem.Challenge.pw_fivefields_k38_marks_refused P) :: (nat_lit 476, k476 PySem.Challenge.pw_fivefields_k38_marks_refused P) :: (nat_lit 477, k477 PySem.Challenge.pw_fivefields_k38_marks_refused P) :: (nat_lit 478, k478 PySem.Challenge.pw_fivefields_k38_marks_refused P) :: (nat_lit 480, k480 PySem.Challenge.pw_fivefields_k38_marks_refused P) :: (nat_lit 481, k481 PySem.Challenge.pw_fivefields_k38_marks_refused P) :: (nat_lit 483, k483 PySem.Challenge.pw_fivefields_k38_marks_refused P) :: (nat_lit 484, k484 PySem.Challenge.pw_fivefields_k38_marks_refused P) :: (nat_lit 485, k485 PySem.Challenge.pw_fivefields_k38_marks_refused P) :: (nat_lit 487, k487 PySem.Challenge.pw_fivefields_k38_marks_refused P) :: (nat_lit 488, k488 PySem.Challenge.pw_fivefields_k38_marks_refused P) :: (nat_lit 490, k490 PySem.Challenge.pw_fivefields_k38_marks_refused P) :: (nat_lit 491, k491 PySem.Challenge.pw_fivefields_k38_marks_refused P) :: (nat_lit 492, k492 PySem.Challenge.pw_fivefields_k38_marks_refused P) :: (nat_lit 494, k494 PySem.Challenge.pw_fivefields_k38_marks_refused P) :: (nat_lit 495, k495 PySem.Challenge.pw_fivefields_k38_marks_refused P) :: (nat_lit 497, k497 PySem.Challenge.pw_fivefields_k38_marks_refused P) :: (nat_lit 498, k498 PySem.Challenge.pw_fivefields_k38_marks_refused P) :: (nat_lit 499, k499 PySem.Challenge.pw_fivefields_k38_marks_refused P) :: (nat_lit 501, k501 PySem.Challenge.pw_fivefields_k38_marks_refused P) :: (nat_lit 502, k502 PySem.Challenge.pw_fivefields_k38_marks_refused P) :: (nat_lit 504, k504 PySem.Challenge.pw_fivefields_k38_marks_refused P) :: (nat_lit 505, k505 PySem.Challenge.pw_fivefields_k38_marks_refused P) :: (nat_lit 506, k506 PySem.Challenge.pw_fivefields_k38_marks_refused P) :: (nat_lit 508, k508 PySem.Challenge.pw_fivefields_k38_marks_refused P) :: (nat_lit 509, k509 PySem.Challenge.pw_fivefields_k38_marks_refused P) :: (nat_lit 511, k511 PySem.Challenge.pw_fivefields_k38_marks_refused P) :: (nat_lit 512, k512 PySem.Challenge.pw_fivefields_k38_marks_refused P) :: (nat_lit 513, k513 PySem.Challenge.pw_fivefields_k38_marks_refused P) :: (nat_lit 515, k515 PySem.Challenge.pw_fivefields_k38_marks_refused P) :: (nat_lit 516, k516 PySem.Challenge.pw_fivefields_k38_marks_refused P) :: (nat_lit 518, k518 PySem.Challenge.pw_fivefields_k38_marks_refused P) :: (nat_lit 519, k519 PySem.Challenge.pw_fivefields_k38_marks_refused P) :: (nat_lit 520, k520 PySem.Challenge.pw_fivefields_k38_marks_refused P) :: (nat_lit 522, k522 PySem.Challenge.pw_fivefields_k38_marks_refused P) :: (nat_lit 523, k523 PySem.Challenge.pw_fivefields_k38_marks_refused P) :: (nat_lit 525, k525 PySem.Challenge.pw_fivefields_k38_marks_refused P) :: (nat_lit 526, k526 PySem.Challenge.pw_fivefields_k38_marks_refused P) :: (nat_lit 527, k527 PySem.Challenge.pw_fivefields_k38_marks_refused P) :: (nat_lit 529, k529 PySem.Challenge.pw_fivefields_k38_marks_refused P) :: (nat_lit 530, k530 PySem.Challenge.pw_fivefields_k38_marks_refused P) :: (nat_lit 532, k532 PySem.Challenge.pw_fivefields_k38_marks_refused P) :: (nat_lit 533, k533 PySem.Challenge.pw_fivefields_k38_marks_refused P) :: (nat_lit 534, k534 PySem.Challenge.pw_fivefields_k38_marks_refused P) :: (nat_lit 536, k536 PySem.Challenge.pw_fivefields_k38_marks_refused P) :: (nat_lit 537, k537 PySem.Challenge.pw_fivefields_k38_marks_refused P) :: (nat_lit 539, k539 PySem.Challenge.pw_fivefields_k38_marks_refused P) :: (nat_lit 540, k540 PySem.Challenge.pw_fivefields_k38_marks_refused P) :: (nat_lit 541, k541 PySem.Challenge.pw_fivefields_k38_marks_refused P) :: (nat_lit 543, k543 PySem.Challenge.pw_fivefields_k38_marks_refused P) :: (nat_lit 544, k544 PySem.Challenge.pw_fivefields_k38_marks_refused P) :: (nat_lit 546, k546 PySem.Challenge.pw_fivefields_k38_marks_refused P) :: (nat_lit 547, k547 PySem.Challenge.pw_fivefields_k38_marks_refused P) :: (nat_lit 548, k548 PySem.Challenge.pw_fivefields_k38_marks_refused P) :: (nat_lit 550, k550 PySem.Challenge.pw_fivefields_k38_marks_refused P) :: (nat_lit 551, k551 PySem.Challenge.pw_fivefields_k38_marks_refused P) :: (nat_lit 553, k553 PySem.Challenge.pw_fivefields_k38_marks_refused P) :: (nat_lit 554, k554 PySem.Challenge.pw_fivefields_k38_marks_refused P) :: (nat_lit 555, k555 PySem.Challenge.pw_fivefields_k38_marks_refused P) :: (nat_lit 557, k557 PySem.Challenge.pw_fivefields_k38_marks_refused P) :: (nat_lit 558, k558 PySem.Challenge.pw_fivefields_k38_marks_refused P) :: (nat_lit 560, k560 PySem.Challenge.pw_fivefields_k38_marks_refused P) :: (nat_lit 561, k561 PySem.Challenge.pw_fivefields_k38_marks_refused P) :: (nat_lit 562, k562 PySem.Challenge.pw_fivefields_k38_marks_refused P) :: (nat_lit 565, k565 PySem.Challenge.pw_fivefields_k38_marks_refused P) :: (nat_lit 566, k566 PySem.Challenge.pw_fivefields_k38_marks_refused P) :: (nat_lit 567, k567 PySem.Challenge.pw_fivefields_k38_marks_refused P) :: (nat_lit 569, k569 PySem.Challenge.pw_fivefields_k38_marks_refused P) :: (nat_lit 570, k570 PySem.Challenge.pw_fivefields_k38_marks_refused P) :: (nat_lit 572, k572 PySem.Challenge.pw_fivefields_k38_marks_refused P) :: (nat_lit 573, k573 PySem.Challenge.pw_fivefields_k38_marks_refused P) :: (nat_lit 574, k574 PySem.Challenge.pw_fivefields_k38_marks_refused P) :: (nat_lit 576, k576 PySem.Challenge.pw_fivefields_k38_marks_refused P) :: (nat_lit 577, k577 PySem.Challenge.pw_fivefields_k38_marks_refused P) :: (nat_lit 579, k579 PySem.Challenge.pw_fivefields_k38_marks_refused P) :: (nat_lit 580, k580 PySem.Challenge.pw_fivefields_k38_marks_refused P) :: (nat_lit 581, k581 PySem.Challenge.pw_fivefields_k38_marks_refused P) :: (nat_lit 584, k584 PySem.Challenge.pw_fivefields_k38_marks_refused P) :: (nat_lit 585, k585 PySem.Challenge.pw_fivefields_k38_marks_refused P) :: []
def ka : List Addr := [2, 3, 15, 17, 18, 20, 21, 22, 29, 30, 31, 32, 35, 42, 43, 44, 47, 54, 55, 56, 59, 66, 68, 69, 71, 72, 73, 74, 75, 78, 85, 87, 88, 90, 91, 92, 93, 94, 97, 104, 105, 106, 109, 116, 117, 118, 121, 128, 130, 131, 133, 134, 135, 136, 137, 140, 147, 148, 149, 152, 154, 155, 157, 158, 159, 161, 162, 164, 165, 166, 169, 170, 171, 174, 175, 176, 178, 179, 181, 182, 183, 185, 186, 188, 189, 190, 192, 193, 195, 196, 204, 206, 207, 209, 210, 211, 213, 214, 216, 217, 218, 219, 220, 221, 222, 225, 232, 234, 235, 237, 238, 239, 241, 242, 244, 245, 246, 248, 249, 251, 252, 253, 254, 255, 258, 265, 266, 268, 269, 271, 272, 273, 275, 276, 278, 279, 280, 282, 283, 285, 286, 287, 288, 289, 292, 299, 301, 302, 304, 305, 306, 308, 309, 311, 312, 313, 315, 316, 318, 319, 320, 321, 322, 325, 332, 334, 335, 337, 338, 339, 341, 342, 344, 345, 346, 347, 348, 351, 358, 360, 361, 363, 364, 365, 367, 368, 370, 371, 372, 374, 375, 377, 378, 379, 380, 381, 384, 391, 393, 394, 396, 397, 398, 400, 401, 403, 404, 405, 407, 408, 410, 411, 412, 413, 414, 417, 424, 426, 427, 429, 430, 431, 433, 434, 436, 437, 438, 440, 441, 443, 444, 445, 446, 447, 450, 452, 453, 455, 456, 457, 459, 460, 462, 463, 464, 466, 467, 469, 470, 471, 473, 474, 476, 477, 478, 480, 481, 483, 484, 485, 487, 488, 490, 491, 492, 494, 495, 497, 498, 499, 501, 502, 504, 505, 506, 508, 509, 511, 512, 513, 515, 516, 518, 519, 520, 522, 523, 525, 526, 527, 529, 530, 532, 533, 534, 536, 537, 539, 540, 541, 543, 544, 546, 547, 548, 550, 551, 553, 554, 555, 557, 558, 560, 561, 562, 565, 566, 567, 569, 570, 572, 573, 574, 576, 577, 579, 580, 581, 584, 585]
def qOf (p : Program) : Program := { p with main := { p.main with body := [tpS p 61] } }
def lo : List Str := [cs [95, 119, 97, 108, 108], cs [95, 95, 110, 97, 109, 101, 95, 95], cs [70, 105, 101, 108, 100, 69, 114, 114, 111, 114], cs [78, 111, 68, 97, 121], cs [78, 111, 77, 111, 109, 101, 110, 116], cs [78, 111, 70, 105, 101, 108, 100], cs [78, 111, 82, 111, 119], cs [78, 111, 66, 111, 111, 107], cs [78, 111, 67, 108, 111, 99, 107], cs [78, 111, 78, 97, 109, 101], cs [78, 111, 87, 111, 114, 100], cs [70, 73, 71, 85, 82, 69, 83, 95, 119, 104, 111, 108, 101, 115], cs [111, 110, 108, 121, 95, 102, 105, 103, 117, 114, 101, 115], cs [77, 79, 83, 84, 95, 83, 73, 71, 78, 83, 95, 102, 105, 101, 108, 100, 115], cs [77, 79, 83, 84, 95, 73, 84, 69, 77, 83, 95, 102, 105, 101, 108, 100, 115], cs [77, 79, 83, 84, 95, 83, 84, 82, 73, 68, 69], cs [109, 97, 115, 107, 95, 111, 102], cs [110, 117, 109, 98, 101, 114, 95, 105, 110], cs [110, 117, 109, 98, 101, 114, 95, 105, 110, 95, 102, 105, 101, 108, 100, 115], cs [115, 112, 97, 110, 95, 105, 110], cs [105, 116, 101, 109, 95, 109, 97, 115, 107], cs [114, 101, 97, 100, 95, 102, 105, 101, 108, 100], cs [70, 73, 71, 85, 82, 69, 83, 95, 109, 97, 114, 107, 115], cs [77, 79, 83, 84, 95, 83, 73, 71, 78, 83, 95, 109, 97, 114, 107, 115], cs [77, 79, 83, 84, 95, 73, 84, 69, 77, 83, 95, 109, 97, 114, 107, 115], cs [77, 79, 83, 84, 95, 77, 65, 82, 75, 83], cs [83, 85, 78, 68, 65, 89], cs [83, 65, 84, 85, 82, 68, 65, 89], cs [119, 101, 101, 107, 100, 97, 121, 95, 105, 110], cs [77, 97, 114, 107], cs [78, 117, 109, 98, 101, 114, 115], cs [76, 97, 115, 116], cs [78, 101, 97, 114], cs [76, 97, 115, 116, 87, 111, 114, 107], cs [87, 101, 101, 107, 100, 97, 121, 115], cs [78, 116, 104], cs [76, 97, 115, 116, 79, 110, 101], cs [110, 117, 109, 98, 101, 114, 95, 105, 110, 95, 109, 97, 114, 107, 115], cs [100, 97, 121, 95, 109, 97, 114, 107], cs [119, 101, 101, 107, 100, 97, 121, 95, 109, 97, 114, 107], cs [105, 116, 101, 109, 115, 95, 111, 102], cs [112, 108, 97, 105, 110, 95, 105, 116, 101, 109], cs [114, 101, 97, 100, 95, 105, 116, 101, 109, 115], cs [114, 101, 97, 100, 95, 100, 97, 121, 115], cs [114, 101, 97, 100, 95, 119, 101, 101, 107, 100, 97, 121, 115], cs [95, 108, 97, 119, 95, 99, 101, 108, 108, 95, 97, 116], cs [95, 108, 97, 119, 95, 115, 116, 105, 114], cs [95, 108, 97, 119, 95, 100, 105, 103, 105, 116, 115], cs [95, 108, 97, 119, 95, 119, 104, 111, 108, 101], cs [95, 108, 97, 119, 95, 114, 105, 103, 104, 116], cs [95, 108, 97, 119, 95, 119, 114, 111, 110, 103], cs [95, 108, 97, 119, 95, 105, 116, 101, 109, 115], cs [95, 108, 97, 119, 95, 105, 115, 95, 109, 97, 114, 107], cs [95, 108, 97, 119, 95, 100, 117, 101], cs [95, 108, 97, 119, 95, 116, 111, 108, 100], cs [95, 108, 97, 119, 95, 108, 111, 110, 103, 101, 115, 116]]
def dLaw : DefRec := ⟨"law", defArgs (tpS PySem.Challenge.pw_fivefields_k38_marks_refused 61), defBody (tpS PySem.Challenge.pw_fivefields_k38_marks_refused 61), defScope (tpS PySem.Challenge.pw_fivefields_k38_marks_refused 61), ⟨358, 0, 371, 15⟩⟩
end W38H
open PySem PySem.W PyProof.Rows
set_option maxHeartbeats 0 in
theorem W38H.pre (h : PySem.Challenge.rw_fivefields_k38_marks_refused.row.wellSaid = true → PySem.Challenge.rw_fivefields_k38_marks_refused.row.Holds) : PySem.Challenge.rw_fivefields_k38_marks_refused.Holds := by
  w_on; o_law; rename_i said; exact h said
set_option maxHeartbeats 0 in
theorem W38H.run : ∀ w, HeadRun.RunEq PySem.Challenge.rw_fivefields_k38_marks_refused.row (W38H.qOf PySem.Challenge.pw_fivefields_k38_marks_refused) (kHook W38H.Kp W38H.ka (fun _ => by kernel_rfl)) (fun s => W38H.ka.map (HeadRun.getT s)) 10924 W38H.lo w := by
  have te : PySem.Challenge.pw_fivefields_k38_marks_refused = PySem.W.Fast.tw2621327975574459920 := PySem.W.Fast.te2621327975574459920
  intro w os
  show (HeadRun.endF (HeadRun.stepQ (HeadRun.denQ HeadRun.tabQ) PySem.Challenge.pw_fivefields_k38_marks_refused w) _ PySem.Challenge.pw_fivefields_k38_marks_refused w os).map (fun s => (HeadRun.looksF PySem.Challenge.pw_fivefields_k38_marks_refused (boot_heap w.params) s.abs, HeadRun.seenQ (W38H.qOf PySem.Challenge.pw_fivefields_k38_marks_refused) W38H.lo (importedModules (PySem.Challenge.pw_fivefields_k38_marks_refused).main.body) (fun s => xlAt (W38H.qOf PySem.Challenge.pw_fivefields_k38_marks_refused) [] s && recOk [] s) s.abs, W38H.ka.map (HeadRun.getT s))) = some (true, openGood (W38H.qOf PySem.Challenge.pw_fivefields_k38_marks_refused) W38H.lo, (W38H.Kt PySem.Challenge.pw_fivefields_k38_marks_refused w.params).map fun x => some x.2)
  rw [te]
  kernel_rfl
set_option maxHeartbeats 0 in
theorem W38H.head (said : PySem.Challenge.rw_fivefields_k38_marks_refused.row.wellSaid = true) (call : WalkO (W38H.qOf PySem.Challenge.pw_fivefields_k38_marks_refused) W38H.lo (XL (W38H.qOf PySem.Challenge.pw_fivefields_k38_marks_refused) []) (kHook W38H.Kp W38H.ka (fun _ => by kernel_rfl)).says PySem.Challenge.rw_fivefields_k38_marks_refused.row.toRowW W38H.dLaw [] fun f vs => PySem.call f vs) : PySem.Challenge.rw_fivefields_k38_marks_refused.row.Holds := by
  refine HeadRun.head_any (r := PySem.Challenge.rw_fivefields_k38_marks_refused.row) (q := W38H.qOf PySem.Challenge.pw_fivefields_k38_marks_refused) (H := kHook W38H.Kp W38H.ka (fun _ => by kernel_rfl)) (ob := fun s => W38H.ka.map (HeadRun.getT s)) (M := 10924) (loose := W38H.lo) (d := W38H.dLaw) (kwd := []) (fun s => List.map_congr_left fun a _ => HeadRun.getT_eq s a) ?e ?f W38H.run ?hdef ?hp ?hk ?hwr said ?ok ?hb ?hw call
  case e => kernel_rfl
  case f => exact fun s => by kernel_rfl
  case hdef => kernel_rfl
  case hp => kernel_rfl
  case hk => kernel_rfl
  case hwr => kernel_rfl
  case ok => kernel_rfl
  case hb => exact ⟨rfl, rfl, rfl, rfl, rfl, by kernel_rfl⟩
  case hw => w_witness2
end
namespace PL
open PySem PySem.Spec L2
open Evl (Ex)

/-! ### data: what a value is, told without addresses -/
inductive D where
  | v (x : V)
  | tup (l : List D)
  | lst (l : List D)
  | obj (C : Addr) (ns : List Str) (l : List D)
  | dct (ks : List Key) (l : List D)
  /-- d, and just this value -/
  | pin (u : V) (d : D)

abbrev D.int (i : Int) : D := .v (.int i)
abbrev D.bl (b : Bool) : D := .v (.bl b)
abbrev D.str (s : Str) : D := .v (.str s)
abbrev D.non : D := .v .non

mutual
def Rp (K : PySem.W.Frag) (H : Hp) : D → V → Prop
  | .v x, u => u = x
  | .tup l, u => ∃ a xs, u = .ref a ∧ SqT K H a xs ∧ RpL K H l xs
  | .lst l, u => ∃ a xs, u = .ref a ∧ SqL K H a xs ∧ RpL K H l xs
  | .obj C ns l, u => ∃ a dx xs, u = .ref a ∧ H a = some (.ins C dx (ns.zip xs)) ∧ ns.length = xs.length ∧ RpL K H l xs
  | .dct ks l, u => ∃ a xs, u = .ref a ∧ H a = some (.dK (ks.zip xs)) ∧ ks.length = xs.length ∧ RpL K H l xs
  | .pin x d, u => u = x ∧ Rp K H d u
def RpL (K : PySem.W.Frag) (H : Hp) : List D → List V → Prop
  | [], xs => xs = []
  | d :: l, xs => ∃ x r, xs = x :: r ∧ Rp K H d x ∧ RpL K H l r
end

section
variable {K : PySem.W.Frag} {H H' : Hp}
mutual
theorem rp_mono (e : Ex H H') : ∀ {d : D} {u : V}, Rp K H d u → Rp K H' d u
  | .v x, u, h => by
    unfold Rp at h ⊢
    exact h
  | .tup l, u, h => by
    unfold Rp at h ⊢
    obtain ⟨a, xs, h1, h2, h3⟩ := h
    exact ⟨a, xs, h1, Evl.ex_t e h2, rpL_mono e h3⟩
  | .lst l, u, h => by
    unfold Rp at h ⊢
    obtain ⟨a, xs, h1, h2, h3⟩ := h
    exact ⟨a, xs, h1, Evl.ex_l e h2, rpL_mono e h3⟩
  | .obj C ns l, u, h => by
    unfold Rp at h ⊢
    obtain ⟨a, dx, xs, h1, h2, h3, h4⟩ := h
    exact ⟨a, dx, xs, h1, e _ _ h2, h3, rpL_mono e h4⟩
  | .dct ks l, u, h => by
    unfold Rp at h ⊢
    obtain ⟨a, xs, h1, h2, h3, h4⟩ := h
    exact ⟨a, xs, h1, e _ _ h2, h3, rpL_mono e h4⟩
  | .pin x d, u, h => by
    unfold Rp at h ⊢
    exact ⟨h.1, rp_mono e h.2⟩
theorem rpL_mono (e : Ex H H') : ∀ {l : List D} {xs : List V}, RpL K H l xs → RpL K H' l xs
  | [], xs, h => by
    unfold RpL at h ⊢
    exact h
  | d :: l, xs, h => by
    unfold RpL at h ⊢
    obtain ⟨x, r, h1, h2, h3⟩ := h
    exact ⟨x, r, h1, rp_mono e h2, rpL_mono e h3⟩
end

theorem rp_v {x u : V} (h : Rp K H (.v x) u) : u = x := by
  unfold Rp at h
  exact h
theorem rp_v' {x : V} : Rp K H (.v x) x := by
  unfold Rp
  rfl
theorem rpL_nil : RpL K H [] [] := by
  unfold RpL
  rfl
theorem rpL_cons {d : D} {l : List D} {x : V} {r : List V} (h : Rp K H d x) (t : RpL K H l r) : RpL K H (d :: l) (x :: r) := by
  unfold RpL
  exact ⟨x, r, rfl, h, t⟩
theorem rpL_nil_inv {xs : List V} (h : RpL K H [] xs) : xs = [] := by
  unfold RpL at h
  exact h
theorem rpL_cons_inv {d : D} {l : List D} {xs : List V} (h : RpL K H (d :: l) xs) : ∃ x r, xs = x :: r ∧ Rp K H d x ∧ RpL K H l r := by
  unfold RpL at h
  exact h
theorem rpL_len : ∀ {l : List D} {xs : List V}, RpL K H l xs → xs.length = l.length
  | [], xs, h => by
    rw [rpL_nil_inv h]
    rfl
  | d :: l, xs, h => by
    obtain ⟨x, r, rfl, _, h3⟩ := rpL_cons_inv h
    rw [List.length_cons, List.length_cons, rpL_len h3]
theorem rpL_get : ∀ {l : List D} {xs : List V} {i : Nat} {d : D}, RpL K H l xs → l[i]? = some d → ∃ x, xs[i]? = some x ∧ Rp K H d x
  | [], xs, i, d, h, e => by simp at e
  | d' :: l, xs, 0, d, h, e => by
    obtain ⟨x, r, rfl, h2, _⟩ := rpL_cons_inv h
    simp at e
    subst e
    exact ⟨x, rfl, h2⟩
  | d' :: l, xs, i + 1, d, h, e => by
    obtain ⟨x, r, rfl, _, h3⟩ := rpL_cons_inv h
    obtain ⟨y, e1, h4⟩ := rpL_get (i := i) h3 (by simpa using e)
    exact ⟨y, by simpa using e1, h4⟩
theorem rpL_get' : ∀ {l : List D} {xs : List V} {i : Nat} {x : V}, RpL K H l xs → xs[i]? = some x → ∃ d, l[i]? = some d ∧ Rp K H d x
  | [], xs, i, d, h, e => by
    rw [rpL_nil_inv h] at e
    simp at e
  | d' :: l, xs, 0, d, h, e => by
    obtain ⟨x, r, rfl, h2, _⟩ := rpL_cons_inv h
    simp at e
    subst e
    exact ⟨d', rfl, h2⟩
  | d' :: l, xs, i + 1, d, h, e => by
    obtain ⟨x, r, rfl, _, h3⟩ := rpL_cons_inv h
    obtain ⟨y, e1, h4⟩ := rpL_get' (i := i) h3 (by simpa using e)
    exact ⟨y, by simpa using e1, h4⟩
theorem rpL_app : ∀ {l m : List D} {xs ys : List V}, RpL K H l xs → RpL K H m ys → RpL K H (l ++ m) (xs ++ ys)
  | [], m, xs, ys, h, h' => by
    rw [rpL_nil_inv h]
    exact h'
  | d :: l, m, xs, ys, h, h' => by
    obtain ⟨x, r, rfl, h2, h3⟩ := rpL_cons_inv h
    exact rpL_cons h2 (rpL_app h3 h')
theorem rpL_set : ∀ {l : List D} {xs : List V} {d : D} {x : V} (i : Nat), RpL K H l xs → Rp K H d x → RpL K H (l.set i d) (xs.set i x)
  | [], xs, d, x, i, h, h' => by
    rw [rpL_nil_inv h]
    exact rpL_nil
  | d' :: l, xs, d, x, 0, h, h' => by
    obtain ⟨y, r, rfl, h2, h3⟩ := rpL_cons_inv h
    exact rpL_cons h' h3
  | d' :: l, xs, d, x, i + 1, h, h' => by
    obtain ⟨y, r, rfl, h2, h3⟩ := rpL_cons_inv h
    exact rpL_cons h2 (rpL_set i h3 h')
theorem rpL_drop : ∀ {l : List D} {xs : List V} (i : Nat), RpL K H l xs → RpL K H (l.drop i) (xs.drop i)
  | l, xs, 0, h => h
  | [], xs, i + 1, h => by
    rw [rpL_nil_inv h]
    exact rpL_nil
  | d' :: l, xs, i + 1, h => by
    obtain ⟨y, r, rfl, h2, h3⟩ := rpL_cons_inv h
    exact rpL_drop i h3
theorem rpL_take : ∀ {l : List D} {xs : List V} (i : Nat), RpL K H l xs → RpL K H (l.take i) (xs.take i)
  | l, xs, 0, h => rpL_nil
  | [], xs, i + 1, h => by
    rw [rpL_nil_inv h]
    exact rpL_nil
  | d' :: l, xs, i + 1, h => by
    obtain ⟨y, r, rfl, h2, h3⟩ := rpL_cons_inv h
    exact rpL_cons h2 (rpL_take i h3)
theorem rpL_vs : ∀ {vs xs : List V}, RpL K H (vs.map D.v) xs → xs = vs
  | [], xs, h => rpL_nil_inv h
  | v :: vs, xs, h => by
    obtain ⟨x, r, rfl, h2, h3⟩ := rpL_cons_inv h
    rw [rp_v h2, rpL_vs h3]
theorem rpL_vs' : ∀ {vs : List V}, RpL K H (vs.map D.v) vs
  | [] => rpL_nil
  | v :: vs => rpL_cons rp_v' rpL_vs'
end

/-! ### the frame: what stands in a slot -/
/-- an exception's own fields -/
def ExAt (K : PySem.W.Frag) (Hv : Hp) (ns : List Str) (ds : List D) (od : Option Addr) : Prop := (ns = [] ∧ ds = [] ∧ od = none) ∨ ∃ dd xs, od = some dd ∧ Hv dd = some (.xd (ns.zip xs)) ∧ ns.length = xs.length ∧ RpL K Hv ds xs
theorem ExAt.mono {K : PySem.W.Frag} {H H' : Hp} {ns : List Str} {ds : List D} {od : Option Addr} (e : Ex H H') (h : ExAt K H ns ds od) : ExAt K H' ns ds od := by
  rcases h with h | ⟨dd, xs, h1, h2, h3, h4⟩
  · exact .inl h
  · exact .inr ⟨dd, xs, h1, e _ _ h2, h3, rpL_mono e h4⟩
inductive E where
  | no
  | val (d : D)
  /-- an exception that was caught: its address, its fields -/
  | exc (a : Addr) (od : Option Addr) (ns : List Str) (ds : List D)
  /-- an instance that is being made, at p: its fields so far -/
  | slf (p C : Addr) (ns : List Str) (l : List D)
  /-- a list of this def's own: nothing else names it -/
  | own (l : List D)

/-- the view (data that stay) and the heap go on -/
structure Vx (Hv H Hv' H' : Hp) : Prop where
  vv : Ex Hv Hv'
  hh : Ex H H'
  vh : Ex Hv' H'
  fr : ∀ a o, Hv' a = some o → Hv a = some o ∨ H a = none

theorem Vx.refl {Hv H : Hp} (h : Ex Hv H) : Vx Hv H Hv H := ⟨Ex.refl _, Ex.refl _, h, fun _ _ e => .inl e⟩
theorem Vx.trans {A B A1 B1 A2 B2 : Hp} (x : Vx A B A1 B1) (y : Vx A1 B1 A2 B2) : Vx A B A2 B2 :=
  ⟨x.vv.trans y.vv, x.hh.trans y.hh, y.vh, fun a o e => by
    rcases y.fr a o e with h | h
    · exact x.fr a o h
    · exact .inr (Evl.fresh_back x.hh h)⟩

def At (K : PySem.W.Frag) (Bs Hv H : Hp) (e : E) (o : Option V) : Prop := match e with
  | .no => True
  | .val d => ∃ v, o = some v ∧ Rp K Hv d v
  | .exc a od ns ds => o = some (.ref a) ∧ ExAt K Hv ns ds od
  | .slf p C ns l => o = some (.ref p) ∧ Bs p = none ∧ Hv p = none ∧ ∃ dx xs, H p = some (.ins C dx (ns.zip xs)) ∧ ns.length = xs.length ∧ RpL K Hv l xs
  | .own l => ∃ p xs, o = some (.ref p) ∧ Bs p = none ∧ Hv p = none ∧ H p = some (.lst xs) ∧ RpL K Hv l xs

def isOwn : E → Bool
  | .own _ => true
  | _ => false

structure Sg (K : PySem.W.Frag) (Bv Bs Hv H : Hp) (ρ : List E) (σ : St) : Prop where
  vx : Vx Bv Bs Hv H
  len : σ.length = ρ.length
  at_ : ∀ (i : Nat) (e : E), ρ[i]? = some e → ∃ o, σ[i]? = some o ∧ At K Bs Hv H e o
  sep : ∀ (i j : Nat) (l l' : List D) (p : Addr), ρ[i]? = some (.own l) → ρ[j]? = some (.own l') → σ[i]? = some (some (V.ref p)) → σ[j]? = some (some (V.ref p)) → i = j

section
variable {K : PySem.W.Frag} {Bv Bs Hv H Hv' H' : Hp} {ρ ρ' : List E} {σ : St}

theorem Sg.val (g : Sg K Bv Bs Hv H ρ σ) {i : Nat} {d : D} (h : ρ[i]? = some (.val d)) : ∃ v, σ[i]? = some (some v) ∧ Rp K Hv d v := by
  obtain ⟨o, h1, v, h2, h3⟩ := g.at_ i _ h
  subst h2
  exact ⟨v, h1, h3⟩
theorem Sg.own (g : Sg K Bv Bs Hv H ρ σ) {i : Nat} {l : List D} (h : ρ[i]? = some (.own l)) : ∃ p xs, σ[i]? = some (some (.ref p)) ∧ Bs p = none ∧ Hv p = none ∧ H p = some (.lst xs) ∧ RpL K Hv l xs := by
  obtain ⟨o, h1, p, xs, h2, h3⟩ := g.at_ i _ h
  subst h2
  exact ⟨p, xs, h1, h3⟩
/-- the heap goes on, no own list is touched -/
theorem Sg.go (g : Sg K Bv Bs Hv H ρ σ) (x : Vx Hv H Hv' H') : Sg K Bv Bs Hv' H' ρ σ := by
  refine ⟨g.vx.trans x, g.len, fun i e h => ?_, g.sep⟩
  obtain ⟨o, h1, h2⟩ := g.at_ i e h
  refine ⟨o, h1, ?_⟩
  cases e with
  | no => exact trivial
  | val d =>
    obtain ⟨v, e1, e2⟩ := h2
    exact ⟨v, e1, rp_mono x.vv e2⟩
  | exc a od ns ds => exact ⟨h2.1, h2.2.mono x.vv⟩
  | slf p C ns l =>
    obtain ⟨e1, e2, e3, dx, xs, e4, e5, e6⟩ := h2
    refine ⟨e1, e2, ?_, dx, xs, x.hh _ _ e4, e5, rpL_mono x.vv e6⟩
    cases q : Hv' p with
    | none => rfl
    | some o =>
      rcases x.fr p o q with h | h
      · rw [e3] at h; cases h
      · rw [e4] at h; cases h
  | own l =>
    obtain ⟨p, xs, e1, e2, e3, e4, e5⟩ := h2
    refine ⟨p, xs, e1, e2, ?_, x.hh _ _ e4, rpL_mono x.vv e5⟩
    cases q : Hv' p with
    | none => rfl
    | some o =>
      rcases x.fr p o q with h | h
      · rw [e3] at h; cases h
      · rw [e4] at h; cases h
/-- forget -/
inductive Wk : E → E → Prop where
  | same (e : E) : Wk e e
  | no (e : E) : Wk e .no
/-- slot by slot -/
inductive WkL : List E → List E → Prop where
  | nil : WkL [] []
  | cons {e e' : E} {r r' : List E} : Wk e e' → WkL r r' → WkL (e :: r) (e' :: r')
theorem WkL.refl : ∀ (ρ : List E), WkL ρ ρ
  | [] => .nil
  | e :: r => .cons (.same e) (WkL.refl r)
theorem WkL.len : ∀ {ρ ρ' : List E}, WkL ρ ρ' → ρ'.length = ρ.length
  | _, _, .nil => rfl
  | _, _, .cons _ t => by rw [List.length_cons, List.length_cons, t.len]
theorem WkL.get : ∀ {ρ ρ' : List E} {i : Nat} {e' : E}, WkL ρ ρ' → ρ'[i]? = some e' → ∃ e, ρ[i]? = some e ∧ Wk e e'
  | _, _, i, e', .nil, h => by simp at h
  | _, _, 0, e', .cons a t, h => by
    simp at h
    subst h
    exact ⟨_, rfl, a⟩
  | _, _, i + 1, e', .cons a t, h => by
    obtain ⟨e, h1, h2⟩ := t.get (i := i) (by simpa using h)
    exact ⟨e, by simpa using h1, h2⟩
theorem Wk.own {e : E} {l : List D} (h : Wk e (.own l)) : e = .own l := by
  cases h
  rfl
theorem Sg.wk (g : Sg K Bv Bs Hv H ρ σ) (w : WkL ρ ρ') : Sg K Bv Bs Hv H ρ' σ := by
  refine ⟨g.vx, g.len.trans w.len.symm, fun i e h => ?_, fun i j l l' p h1 h2 h3 h4 => ?_⟩
  · obtain ⟨e0, h0, h1⟩ := w.get h
    obtain ⟨o, h2, h3⟩ := g.at_ i e0 h0
    refine ⟨o, h2, ?_⟩
    cases h1 with
    | same => exact h3
    | no => exact trivial
  · obtain ⟨e1, g1, w1⟩ := w.get h1
    obtain ⟨e2, g2, w2⟩ := w.get h2
    exact g.sep i j l l' p (w1.own ▸ g1) (w2.own ▸ g2) h3 h4
/-- a slot gets data -/
theorem Sg.set (g : Sg K Bv Bs Hv H ρ σ) {i : Nat} {d : D} {v : V} (h : Rp K Hv d v) : Sg K Bv Bs Hv H (ρ.set i (.val d)) (σ.set i (some v)) := by
  refine ⟨g.vx, by rw [List.length_set, List.length_set, g.len], fun j e hj => ?_, fun j k l l' p h1 h2 h3 h4 => ?_⟩
  · by_cases hij : i = j
    · subst hij
      have hl : i < ρ.length := by
        have := (List.getElem?_eq_some_iff.mp hj).1
        rwa [List.length_set] at this
      rw [List.getElem?_set_self hl] at hj
      cases hj
      refine ⟨some v, List.getElem?_set_self (by rw [g.len]; exact hl), v, rfl, h⟩
    · rw [List.getElem?_set_ne hij] at hj
      rw [List.getElem?_set_ne hij]
      exact g.at_ j e hj
  · have n1 : i ≠ j := fun z => by
      subst z
      have hl : i < ρ.length := by
        have := (List.getElem?_eq_some_iff.mp h1).1
        rwa [List.length_set] at this
      rw [List.getElem?_set_self hl] at h1
      cases h1
    have n2 : i ≠ k := fun z => by
      subst z
      have hl : i < ρ.length := by
        have := (List.getElem?_eq_some_iff.mp h2).1
        rwa [List.length_set] at this
      rw [List.getElem?_set_self hl] at h2
      cases h2
    rw [List.getElem?_set_ne n1] at h1 h3
    rw [List.getElem?_set_ne n2] at h2 h4
    exact g.sep j k l l' p h1 h2 h3 h4
/-- an address that no own slot holds -/
def NotOwn (ρ : List E) (σ : St) (p : Addr) : Prop := ∀ (i : Nat) (l : List D), ρ[i]? = some (.own l) → σ[i]? ≠ some (some (V.ref p))
theorem Sg.notOwn_new (g : Sg K Bv Bs Hv H ρ σ) {p : Addr} (h : H p = none) : NotOwn ρ σ p := fun i l h1 h2 => by
  obtain ⟨q, xs, e1, _, _, e4, _⟩ := g.own h1
  rw [e1] at h2
  cases h2
  rw [e4] at h
  cases h
/-- a slot gets a list of one's own -/
theorem Sg.setOwn (g : Sg K Bv Bs Hv H ρ σ) {i : Nat} {l : List D} {p : Addr} {xs : List V} (h1 : Bs p = none) (h2 : Hv p = none) (h3 : H p = some (.lst xs)) (h4 : RpL K Hv l xs) (hn : NotOwn ρ σ p) : Sg K Bv Bs Hv H (ρ.set i (.own l)) (σ.set i (some (.ref p))) := by
  refine ⟨g.vx, by rw [List.length_set, List.length_set, g.len], fun j e hj => ?_, fun j k m m' q e1 e2 e3 e4 => ?_⟩
  · by_cases hij : i = j
    · subst hij
      have hl : i < ρ.length := by
        have := (List.getElem?_eq_some_iff.mp hj).1
        rwa [List.length_set] at this
      rw [List.getElem?_set_self hl] at hj
      cases hj
      refine ⟨some (.ref p), List.getElem?_set_self (by rw [g.len]; exact hl), p, xs, rfl, h1, h2, h3, h4⟩
    · rw [List.getElem?_set_ne hij] at hj
      rw [List.getElem?_set_ne hij]
      exact g.at_ j e hj
  · by_cases z1 : i = j
    · by_cases z2 : i = k
      · exact z1.symm.trans z2
      · exfalso
        subst z1
        have hl : i < ρ.length := by
          have := (List.getElem?_eq_some_iff.mp e1).1
          rwa [List.length_set] at this
        rw [List.getElem?_set_self (by rw [g.len]; exact hl)] at e3
        cases e3
        rw [List.getElem?_set_ne z2] at e2 e4
        exact hn k _ e2 e4
    · by_cases z2 : i = k
      · exfalso
        subst z2
        have hl : i < ρ.length := by
          have := (List.getElem?_eq_some_iff.mp e2).1
          rwa [List.length_set] at this
        rw [List.getElem?_set_self (by rw [g.len]; exact hl)] at e4
        cases e4
        rw [List.getElem?_set_ne z1] at e1 e3
        exact hn j _ e1 e3
      · rw [List.getElem?_set_ne z1] at e1 e3
        rw [List.getElem?_set_ne z2] at e2 e4
        exact g.sep j k m m' q e1 e2 e3 e4
/-- an own list changes in place -/
theorem Sg.upd (g : Sg K Bv Bs Hv H ρ σ) {i : Nat} {l l' : List D} {p : Addr} {ys : List V} (h : ρ[i]? = some (.own l)) (hs : σ[i]? = some (some (.ref p))) (h4 : RpL K Hv l' ys) :
    Sg K Bv Bs Hv (upd H p (.lst ys)) (ρ.set i (.own l')) σ := by
  obtain ⟨q, xs, e1, e2, e3, e4, e5⟩ := g.own h
  rw [hs] at e1
  cases e1
  have hl : i < ρ.length := (List.getElem?_eq_some_iff.mp h).1
  have hx : Ex Bs (L2.upd H p (.lst ys)) := Ex.mut g.vx.hh e2
  have hy : Ex Hv (L2.upd H p (.lst ys)) := Ex.mut g.vx.vh e3
  refine ⟨⟨g.vx.vv, hx, hy, g.vx.fr⟩, by rw [List.length_set, g.len], fun j e hj => ?_, fun j k m m' r f1 f2 f3 f4 => ?_⟩
  · by_cases hij : i = j
    · subst hij
      rw [List.getElem?_set_self hl] at hj
      cases hj
      exact ⟨_, hs, p, ys, rfl, e2, e3, upd_same, h4⟩
    · rw [List.getElem?_set_ne hij] at hj
      obtain ⟨o, g1, g2⟩ := g.at_ j e hj
      refine ⟨o, g1, ?_⟩
      cases e with
      | no => exact trivial
      | val d => exact g2
      | exc a od ns ds => exact g2
      | slf r C ns l =>
        obtain ⟨r1, r2, r3, dx, zs, r4, r5, r6⟩ := g2
        have nr : r ≠ p := fun z => by
          rw [z, e4] at r4
          cases r4
        exact ⟨r1, r2, r3, dx, zs, by rw [upd_ne nr]; exact r4, r5, r6⟩
      | own m =>
        obtain ⟨r, zs, r1, r2, r3, r4, r5⟩ := g2
        subst r1
        have nr : r ≠ p := fun z => hij (g.sep i j _ _ p h hj hs (z ▸ g1))
        exact ⟨r, zs, rfl, r2, r3, by rw [upd_ne nr]; exact r4, r5⟩
  · have go : ∀ {n : Nat} {m : List D}, (ρ.set i (.own l'))[n]? = some (.own m) → ∃ m2, ρ[n]? = some (.own m2) := fun {n m} z => by
      by_cases hin : i = n
      · subst hin
        exact ⟨_, h⟩
      · rw [List.getElem?_set_ne hin] at z
        exact ⟨_, z⟩
    obtain ⟨m1, f1⟩ := go f1
    obtain ⟨m2, f2⟩ := go f2
    exact g.sep j k _ _ r f1 f2 f3 f4
/-- an own list becomes data -/
theorem Sg.freezeAt (g : Sg K Bv Bs Hv H ρ σ) {p : Addr} {xs : List V} (h1 : Bs p = none) (h2 : Hv p = none) (h3 : H p = some (.lst xs)) (hn : NotOwn ρ σ p) :
    Sg K Bv Bs (L2.upd Hv p (.lst xs)) H ρ σ := by
  have hx : Ex Hv (L2.upd Hv p (.lst xs)) := Ex.new h2
  refine ⟨⟨g.vx.vv.trans hx, g.vx.hh, fun a o e => ?_, fun a o e => ?_⟩, g.len, fun i e h => ?_, g.sep⟩
  · by_cases z : a = p
    · subst z
      rw [upd_same] at e
      cases e
      exact h3
    · rw [upd_ne z] at e
      exact g.vx.vh a o e
  · by_cases z : a = p
    · subst z
      exact .inr h1
    · rw [upd_ne z] at e
      exact g.vx.fr a o e
  · obtain ⟨o, e1, e2⟩ := g.at_ i e h
    refine ⟨o, e1, ?_⟩
    cases e with
    | no => exact trivial
    | val d =>
      obtain ⟨v, a1, a2⟩ := e2
      exact ⟨v, a1, rp_mono hx a2⟩
    | exc a od ns ds => exact ⟨e2.1, e2.2.mono hx⟩
    | slf r C ns l =>
      obtain ⟨r1, r2, r3, dx, zs, r4, r5, r6⟩ := e2
      have nr : r ≠ p := fun z => by
        rw [z, h3] at r4
        cases r4
      exact ⟨r1, r2, by rw [upd_ne nr]; exact r3, dx, zs, r4, r5, rpL_mono hx r6⟩
    | own l =>
      obtain ⟨q, ys, a1, a2, a3, a4, a5⟩ := e2
      subst a1
      have nq : q ≠ p := fun z => hn i l h (z ▸ e1)
      exact ⟨q, ys, rfl, a2, by rw [upd_ne nq]; exact a3, a4, rpL_mono hx a5⟩
theorem WkL.no : ∀ (ρ : List E) (i : Nat), WkL ρ (ρ.set i .no)
  | [], _ => .nil
  | e :: r, 0 => .cons (.no e) (WkL.refl r)
  | e :: r, i + 1 => .cons (.same e) (WkL.no r i)
theorem set_set_E : ∀ (ρ : List E) (i : Nat) (a b : E), (ρ.set i a).set i b = ρ.set i b
  | [], _, _, _ => rfl
  | _ :: _, 0, _, _ => rfl
  | e :: r, i + 1, a, b => by
    show e :: (r.set i a).set i b = e :: r.set i b
    rw [set_set_E]
theorem set_self_of : ∀ {α : Type} (l : List α) (i : Nat) (a : α), l[i]? = some a → l.set i a = l
  | _, [], _, _, _ => rfl
  | _, x :: r, 0, a, h => by
    simp at h
    subst h
    rfl
  | _, x :: r, i + 1, a, h => by
    show x :: r.set i a = x :: r
    rw [set_self_of r i a (by simpa using h)]
theorem Sg.freeze (g : Sg K Bv Bs Hv H ρ σ) {i : Nat} {l : List D} (h : ρ[i]? = some (.own l)) : ∃ Hv', Ex Hv Hv' ∧ Sg K Bv Bs Hv' H (ρ.set i (.val (.lst l))) σ := by
  obtain ⟨p, xs, e1, e2, e3, e4, e5⟩ := g.own h
  have hl : i < ρ.length := (List.getElem?_eq_some_iff.mp h).1
  have hx : Ex Hv (L2.upd Hv p (.lst xs)) := Ex.new e3
  have g1 : Sg K Bv Bs Hv H (ρ.set i .no) σ := g.wk (WkL.no ρ i)
  have hn : NotOwn (ρ.set i .no) σ p := fun j m a b => by
    by_cases z : i = j
    · subst z
      rw [List.getElem?_set_self hl] at a
      cases a
    · rw [List.getElem?_set_ne z] at a
      exact z (g.sep i j _ _ p h a e1 b)
  have g2 := g1.freezeAt e2 e3 e4 hn
  have g3 := g2.set (i := i) (d := .lst l) (v := .ref p) (by
    unfold Rp
    exact ⟨p, xs, rfl, .inl (.inl upd_same), rpL_mono hx e5⟩)
  rw [set_set_E, set_self_of σ i _ e1] at g3
  exact ⟨_, hx, g3⟩
end
end PL
namespace PL
open PySem PySem.Spec L2
open Evl (Ex)

/-! ### judgements -/
def tD (K : PySem.W.Frag) (ρ : List E) (d : D) : TE := fun σ H Q => ∃ Bv Bs Hv, Sg K Bv Bs Hv H ρ σ ∧ ∀ v H' Hv', Sg K Bv Bs Hv' H' ρ σ → Vx Hv H Hv' H' → Rp K Hv' d v → Q v H'
/-- told of the heap as it stands (own lists too) -/
def tW (K : PySem.W.Frag) (ρ : List E) (d : D) : TE := fun σ H Q => ∃ Bv Bs Hv, Sg K Bv Bs Hv H ρ σ ∧ ∀ v H' Hv', Sg K Bv Bs Hv' H' ρ σ → Vx Hv H Hv' H' → Rp K H' d v → Q v H'
/-- a new list that nothing names -/
def tO (K : PySem.W.Frag) (ρ : List E) (l : List D) : TE := fun σ H Q => ∃ Bv Bs Hv, Sg K Bv Bs Hv H ρ σ ∧ ∀ p xs H' Hv', Sg K Bv Bs Hv' H' ρ σ → Vx Hv H Hv' H' → Bs p = none → Hv' p = none → H' p = some (.lst xs) → RpL K Hv' l xs → NotOwn ρ σ p → H p = none → Q (.ref p) H'
def tBl (K : PySem.W.Frag) (ρ : List E) (b : Bool) : TT := fun σ H Q => ∃ Bv Bs Hv, Sg K Bv Bs Hv H ρ σ ∧ ∀ H' Hv', Sg K Bv Bs Hv' H' ρ σ → Vx Hv H Hv' H' → Q b H'
def tDs (K : PySem.W.Frag) (ρ : List E) (ds : List D) : TA := fun σ H Q => ∃ Bv Bs Hv, Sg K Bv Bs Hv H ρ σ ∧ ∀ vs H' Hv', Sg K Bv Bs Hv' H' ρ σ → Vx Hv H Hv' H' → RpL K Hv' ds vs → Q vs H'
def tWs (K : PySem.W.Frag) (ρ : List E) (ds : List D) : TA := fun σ H Q => ∃ Bv Bs Hv, Sg K Bv Bs Hv H ρ σ ∧ ∀ vs H' Hv', Sg K Bv Bs Hv' H' ρ σ → Vx Hv H Hv' H' → RpL K H' ds vs → Q vs H'

abbrev XE (X : Cx) (ρ : List E) (e : Expr) (d : D) : Prop := PE X e (tD X.K ρ d)
abbrev XW (X : Cx) (ρ : List E) (e : Expr) (d : D) : Prop := PE X e (tW X.K ρ d)
abbrev XO (X : Cx) (ρ : List E) (e : Expr) (l : List D) : Prop := PE X e (tO X.K ρ l)
abbrev XT (X : Cx) (ρ : List E) (e : Expr) (b : Bool) : Prop := PT X e (tBl X.K ρ b)
abbrev XV (X : Cx) (ρ : List E) (e : Expr) (b : Bool) : Prop := PW X e (tBl X.K ρ b)
abbrev XA (X : Cx) (ρ : List E) (es : List Expr) (ds : List D) : Prop := PA X es (tDs X.K ρ ds)
abbrev XAw (X : Cx) (ρ : List E) (es : List Expr) (ds : List D) : Prop := PA X es (tWs X.K ρ ds)

theorem PE.imp {X : Cx} {e : Expr} {t t' : TE} (h : PE X e t) (i : ∀ σ H Q, t' σ H Q → t σ H Q) : PE X e t' := ⟨fun pins s σ H Q I w => h.run pins s σ H Q I (i σ H Q w)⟩
theorem PT.imp {X : Cx} {e : Expr} {t t' : TT} (h : PT X e t) (i : ∀ σ H Q, t' σ H Q → t σ H Q) : PT X e t' := ⟨fun pins s σ H Q I w => h.run pins s σ H Q I (i σ H Q w)⟩
theorem PW.imp {X : Cx} {e : Expr} {t t' : TT} (h : PW X e t) (i : ∀ σ H Q, t' σ H Q → t σ H Q) : PW X e t' := ⟨fun wh pins s σ H Q I w => h.run wh pins s σ H Q I (i σ H Q w)⟩
theorem PA.imp {X : Cx} {es : List Expr} {t t' : TA} (h : PA X es t) (i : ∀ σ H Q, t' σ H Q → t σ H Q) : PA X es t' := ⟨fun pos pins s σ H Q I w => h.run pos pins s σ H Q I (i σ H Q w)⟩
theorem PS.imp {X : Cx} {e : Stmt} {t t' : TS} (h : PS X e t) (i : ∀ D σ H, t' D σ H → t D σ H) : PS X e t' := ⟨fun pins s σ H D I w => h.run pins s σ H D I (i D σ H w)⟩
theorem PSs.imp {X : Cx} {e : List Stmt} {t t' : TS} (h : PSs X e t) (i : ∀ D σ H, t' D σ H → t D σ H) : PSs X e t' := ⟨fun pins s σ H D I w => h.run pins s σ H D I (i D σ H w)⟩
theorem PG.imp {X : Cx} {e : Expr} {t t' : TG} (h : PG X e t) (i : ∀ v σ H Q, t' v σ H Q → t v σ H Q) : PG X e t' := ⟨fun pins s σ H v u Q I r w => h.run pins s σ H v u Q I r (i v σ H Q w)⟩

section
variable {X : Cx} {ρ : List E} {e a b : Expr} {d x y z : D} {pos : Pos}

theorem Vx.freeze {Hv H Hv' H' : Hp} {p : Addr} {o : HO} (x : Vx Hv H Hv' H') (h2 : Hv' p = none) (h3 : H' p = some o) (h6 : H p = none) : Vx Hv H (upd Hv' p o) H' := ⟨x.vv.trans (Ex.new h2), x.hh, fun a u e => by
  by_cases z : a = p
  · subst z
    rw [upd_same] at e
    rw [h3, e]
  · rw [upd_ne z] at e
    exact x.vh a u e, fun a u e => by
  by_cases z : a = p
  · subst z
    exact .inr h6
  · rw [upd_ne z] at e
    exact x.fr a u e⟩
theorem Vx.newV {Hv H : Hp} {p : Addr} {o : HO} (x : Ex Hv H) (h : H p = none) : Vx Hv H (upd Hv p o) (upd H p o) := by
  have h1 : Hv p = none := Evl.fresh_back x h
  refine ⟨Ex.new h1, Ex.new h, fun a u e => ?_, fun a u e => ?_⟩
  · by_cases z : a = p
    · subst z
      rw [upd_same] at e ⊢
      exact e
    · rw [upd_ne z] at e ⊢
      exact x a u e
  · by_cases z : a = p
    · subst z
      exact .inr h
    · rw [upd_ne z] at e
      exact .inl e
theorem Vx.newH {Hv H : Hp} {p : Addr} {o : HO} (x : Ex Hv H) (h : H p = none) : Vx Hv H Hv (upd H p o) := ⟨Ex.refl _, Ex.new h, x.trans (Ex.new h), fun a u e => .inl e⟩
theorem XE.w (h : XE X ρ e d) : XW X ρ e d := PE.imp h fun σ H Q ⟨Bv, Bs, Hv, g, k⟩ => ⟨Bv, Bs, Hv, g, fun v H' Hv' g' e1 r => k v H' Hv' g' e1 (rp_mono g'.vx.vh r)⟩
/-- a value without an address is told as well by the heap -/
theorem XW.s {u : V} (h : XW X ρ e (.v u)) : XE X ρ e (.v u) := PE.imp h fun σ H Q ⟨Bv, Bs, Hv, g, k⟩ => ⟨Bv, Bs, Hv, g, fun v H' Hv' g' e1 r => k v H' Hv' g' e1 (rp_v r ▸ rp_v')⟩
theorem XO.dat {l : List D} (h : XO X ρ e l) : XE X ρ e (.lst l) := PE.imp h fun σ H Q ⟨Bv, Bs, Hv, g, k⟩ => ⟨Bv, Bs, Hv, g, fun p xs H' Hv' g' e1 h1 h2 h3 h4 h5 h6 => by
  have hx : Ex Hv' (upd Hv' p (.lst xs)) := Ex.new h2
  refine k (.ref p) H' (upd Hv' p (.lst xs)) (g'.freezeAt h1 h2 h3 h5) (e1.freeze h2 h3 h6) ?_
  unfold Rp
  exact ⟨p, xs, rfl, .inl (.inl upd_same), rpL_mono hx h4⟩⟩
theorem XE.is (h : XE X ρ e d) (q : d = x) : XE X ρ e x := q ▸ h
theorem XT.is {b c : Bool} (h : XT X ρ e b) (q : b = c) : XT X ρ e c := q ▸ h

/-! ### names and constants -/
theorem xe_name (i : Nat) {s : Str} (hN : X.N[i]? = some s) (hv : Vis X.env.scope s) (hr : ρ[i]? = some (.val d)) (hd : (s == ("__debug__" : Str)) = false := by decide) (hcd : (s == ("__classdict__" : Str)) = false := by decide) : XE X ρ (.Name s pos) d :=
  PE.imp (pe_var (i := i) hN hv hd hcd) fun σ H Q ⟨Bv, Bs, Hv, g, k⟩ => by
    obtain ⟨v, h1, h2⟩ := g.val hr
    exact ⟨v, h1, k v H Hv g (Vx.refl g.vx.vh) h2⟩
theorem xw_own (i : Nat) {s : Str} {l : List D} (hN : X.N[i]? = some s) (hv : Vis X.env.scope s) (hr : ρ[i]? = some (.own l)) (hd : (s == ("__debug__" : Str)) = false := by decide) (hcd : (s == ("__classdict__" : Str)) = false := by decide) : XW X ρ (.Name s pos) (.lst l) :=
  PE.imp (pe_var (i := i) hN hv hd hcd) fun σ H Q ⟨Bv, Bs, Hv, g, k⟩ => by
    obtain ⟨p, xs, h1, h2, h3, h4, h5⟩ := g.own hr
    refine ⟨.ref p, h1, k _ H Hv g (Vx.refl g.vx.vh) ?_⟩
    unfold Rp
    exact ⟨p, xs, rfl, .inl (.inl h4), rpL_mono g.vx.vh h5⟩
theorem xe_of {t : TE} {u : V} (h : PE X e t) (ht : ∀ σ H Q, Q u H → t σ H Q) : XE X ρ e (.v u) := PE.imp h fun σ H Q ⟨Bv, Bs, Hv, g, k⟩ => ht σ H Q (k u H Hv g (Vx.refl g.vx.vh) rp_v')
theorem xe_int {i j} : XE X ρ (.Constant (.int i) j pos) (.int i) := xe_of pe_int fun _ _ _ h => h
theorem xe_bl {i j} : XE X ρ (.Constant (.bool i) j pos) (.bl i) := xe_of pe_bl fun _ _ _ h => h
theorem xe_non {j} : XE X ρ (.Constant .none j pos) .non := xe_of pe_non fun _ _ _ h => h
theorem xe_str {i j} : XE X ρ (.Constant (.str i) j pos) (.str i) := xe_of pe_str fun _ _ _ h => h
/-- a global that holds a plain value -/
theorem xe_glob {s : Str} {v : V} {u : Value} (hg : Gl X s) (hm : X.mg s = some u) (r : RelV v u) (hd : (s == ("__debug__" : Str)) = false := by decide) : XE X ρ (.Name s pos) (.v v) := xe_of (pe_glob hg hm r hd) fun _ _ _ h => h
/-- a global that holds data of the written part -/
theorem xe_globD {s : Str} {v : V} {u : Value} (hg : Gl X s) (hm : X.mg s = some u) (r : RelV v u) (hr : ∀ H, Rp X.K H d v) (hd : (s == ("__debug__" : Str)) = false := by decide) : XE X ρ (.Name s pos) d :=
  PE.imp (pe_glob hg hm r hd) fun σ H Q ⟨Bv, Bs, Hv, g, k⟩ => k v H Hv g (Vx.refl g.vx.vh) (hr Hv)

/-! ### operators upon plain values -/
/-- r asks of plain values u, w and gives z, the heap as it is -/
def R2v (r : R2) (u w z : V) : Prop := ∀ H Q, Q z H → r u w H Q
theorem xw_op {op : Operator} {r : R2} {u w z : V} (ho : OpR X (binaryOp op) r) (ha : XW X ρ a (.v u)) (hb : XW X ρ b (.v w)) (hr : R2v r u w z) : XE X ρ (.BinOp a op b pos) (.v z) :=
  PE.imp (pe_op ho ha hb) fun σ H Q ⟨Bv, Bs, Hv, g, k⟩ => ⟨Bv, Bs, Hv, g, fun v1 H1 Hv1 g1 e1 r1 => ⟨Bv, Bs, Hv1, g1, fun v2 H2 Hv2 g2 e2 r2 => by
    rw [rp_v r1, rp_v r2]
    exact hr _ _ (k z H2 Hv2 g2 (e1.trans e2) rp_v')⟩⟩
theorem xe_op {op : Operator} {r : R2} {u w z : V} (ho : OpR X (binaryOp op) r) (ha : XE X ρ a (.v u)) (hb : XE X ρ b (.v w)) (hr : R2v r u w z) : XE X ρ (.BinOp a op b pos) (.v z) := xw_op ho ha.w hb.w hr
theorem xe_un {op : UnaryOp} {r : V → Hp → VK → Prop} {u z : V} (ho : UnR X (unaryOp op) r) (ha : XE X ρ a (.v u)) (hr : ∀ H Q, Q z H → r u H Q) : XE X ρ (.UnaryOp op a pos) (.v z) :=
  PE.imp (pe_un ho ha) fun σ H Q ⟨Bv, Bs, Hv, g, k⟩ => ⟨Bv, Bs, Hv, g, fun v1 H1 Hv1 g1 e1 r1 => by
    rw [rp_v r1]
    exact hr _ _ (k z H1 Hv1 g1 e1 rp_v')⟩
variable {i j : Int}
theorem r2_I0 {f : Int → Int → V} : R2v (rI0 f) (.int i) (.int j) (f i j) := fun _ _ q => ⟨i, j, rfl, rfl, q⟩
theorem r2_I {C : Int → Int → Prop} {f : Int → Int → V} (h : C i j) : R2v (rI C f) (.int i) (.int j) (f i j) := fun _ _ q => ⟨i, j, rfl, rfl, h, q⟩
theorem xe_add (ha : XE X ρ a (.int i)) (hb : XE X ρ b (.int j)) : XE X ρ (.BinOp a .Add b pos) (.int (i + j)) := xe_op op_add ha hb r2_I0
theorem xe_sub (ha : XE X ρ a (.int i)) (hb : XE X ρ b (.int j)) : XE X ρ (.BinOp a .Sub b pos) (.int (i - j)) := xe_op op_sub ha hb r2_I0
theorem xe_mul (ha : XE X ρ a (.int i)) (hb : XE X ρ b (.int j)) (h : CMul i j) : XE X ρ (.BinOp a .Mult b pos) (.int (i * j)) := xe_op op_mul ha hb (r2_I h)
theorem xe_fdiv (ha : XE X ρ a (.int i)) (hb : XE X ρ b (.int j)) (h : CDiv i j) : XE X ρ (.BinOp a .FloorDiv b pos) (.int (i / j)) := xe_op op_fdiv ha hb (r2_I h)
theorem xe_mod (ha : XE X ρ a (.int i)) (hb : XE X ρ b (.int j)) (h : 0 < j) : XE X ρ (.BinOp a .Mod b pos) (.int (i % j)) := xe_op op_mod ha hb (r2_I (C := fun _ j => 0 < j) h)
theorem xe_pow (ha : XE X ρ a (.int i)) (hb : XE X ρ b (.int j)) (h : CPow i j) : XE X ρ (.BinOp a .Pow b pos) (.int (i ^ j.toNat)) := xe_op op_pow ha hb (r2_I h)
theorem xe_shl (ha : XE X ρ a (.int i)) (hb : XE X ρ b (.int j)) (h : CPow i j) : XE X ρ (.BinOp a .LShift b pos) (.int (i * 2 ^ j.toNat)) := xe_op op_shl ha hb (r2_I h)
theorem xe_shr (ha : XE X ρ a (.int i)) (hb : XE X ρ b (.int j)) (h : 0 ≤ j) : XE X ρ (.BinOp a .RShift b pos) (.int (i / 2 ^ j.toNat)) := xe_op op_shr ha hb (r2_I (C := fun _ j => 0 ≤ j) h)
theorem xe_and (ha : XE X ρ a (.int i)) (hb : XE X ρ b (.int j)) : XE X ρ (.BinOp a .BitAnd b pos) (.int (Builtin.bitAnd i j)) := xe_op op_and ha hb r2_I0
theorem xe_or (ha : XE X ρ a (.int i)) (hb : XE X ρ b (.int j)) : XE X ρ (.BinOp a .BitOr b pos) (.int (Builtin.bitOr i j)) := xe_op op_or ha hb r2_I0
theorem xe_xor (ha : XE X ρ a (.int i)) (hb : XE X ρ b (.int j)) : XE X ρ (.BinOp a .BitXor b pos) (.int (Builtin.bitXor i j)) := xe_op op_xor ha hb r2_I0
theorem xe_neg (ha : XE X ρ a (.int i)) : XE X ρ (.UnaryOp .USub a pos) (.int (-i)) := xe_un un_neg ha fun _ _ q => ⟨i, rfl, q⟩
theorem xe_cat {s t : Str} (ha : XE X ρ a (.str s)) (hb : XE X ρ b (.str t)) (h : s.length + t.length ≤ sizeLine) : XE X ρ (.BinOp a .Add b pos) (.str (s ++ t)) := xe_op op_add_str ha hb fun _ _ q => ⟨s, t, rfl, rfl, h, q⟩

/-! ### comparisons -/
theorem xw_cmp {op : CmpOp} {r : R2} {u w z : V} (ho : OpR X (compareOp op) r) (ha : XW X ρ a (.v u)) (hb : XW X ρ b (.v w)) (hr : R2v r u w z) (hm : behindInMarks op b = false) : XE X ρ (.Compare a [op] [b] pos) (.v z) :=
  PE.imp (pe_cmpR ho ha hb hm) fun σ H Q ⟨Bv, Bs, Hv, g, k⟩ => ⟨Bv, Bs, Hv, g, fun v1 H1 Hv1 g1 e1 r1 => ⟨Bv, Bs, Hv1, g1, fun v2 H2 Hv2 g2 e2 r2 => by
    rw [rp_v r1, rp_v r2]
    exact hr _ _ (k z H2 Hv2 g2 (e1.trans e2) rp_v')⟩⟩
theorem xt_cmp {op : CmpOp} {r : R2} {u w : V} {c : Bool} (ho : OpR X (compareOp op) r) (ha : XE X ρ a (.v u)) (hb : XE X ρ b (.v w)) (hr : R2v r u w (.bl c)) (hm : behindInMarks op b = false) : XT X ρ (.Compare a [op] [b] pos) c :=
  PT.imp (pt_cmpR ho ha hb hm) fun σ H Q ⟨Bv, Bs, Hv, g, k⟩ => ⟨Bv, Bs, Hv, g, fun v1 H1 Hv1 g1 e1 r1 => ⟨Bv, Bs, Hv1, g1, fun v2 H2 Hv2 g2 e2 r2 => by
    rw [rp_v r1, rp_v r2]
    exact hr _ _ ⟨c, rfl, k H2 Hv2 g2 (e1.trans e2)⟩⟩⟩
/-- what a comparison of plain values gives -/
inductive Cmp : CmpOp → V → V → Bool → Prop where
  | lt (i j : Int) : Cmp .Lt (.int i) (.int j) (decide (i < j))
  | le (i j : Int) : Cmp .LtE (.int i) (.int j) (decide (i ≤ j))
  | gt (i j : Int) : Cmp .Gt (.int i) (.int j) (decide (j < i))
  | ge (i j : Int) : Cmp .GtE (.int i) (.int j) (decide (j ≤ i))
  | eqI (i j : Int) : Cmp .Eq (.int i) (.int j) (decide (i = j))
  | neI (i j : Int) : Cmp .NotEq (.int i) (.int j) (!decide (i = j))
  | eqS (i j : Str) : Cmp .Eq (.str i) (.str j) (decide (i = j))
  | neS (i j : Str) : Cmp .NotEq (.str i) (.str j) (!decide (i = j))
  | eqB (i j : Bool) : Cmp .Eq (.bl i) (.bl j) (i == j)
  | neB (i j : Bool) : Cmp .NotEq (.bl i) (.bl j) (!(i == j))
  | isB (i j : Bool) : Cmp .Is (.bl i) (.bl j) (decide (i = j))
  | notB (i j : Bool) : Cmp .IsNot (.bl i) (.bl j) (!decide (i = j))
  | isN (x : V) : Cmp .Is x .non (decide (x = .non))
  | notN (x : V) : Cmp .IsNot x .non (!decide (x = .non))
theorem dec_int' {i j : Int} : decide (V.int i = V.int j) = decide (i = j) := by
  by_cases h : i = j
  · subst h
    simp
  · simp [h]
theorem dec_str' {i j : Str} : decide (V.str i = V.str j) = decide (i = j) := by
  by_cases h : i = j
  · subst h
    simp
  · simp [h]
theorem Cmp.rule {op : CmpOp} {u w : V} {c : Bool} (h : Cmp op u w c) : ∃ r : R2, OpR X (compareOp op) r ∧ R2v r u w (.bl c) ∧ op ≠ .In ∧ op ≠ .NotIn := by
  cases h with
  | lt i j => exact ⟨_, op_lt, r2_I0, by decide, by decide⟩
  | le i j => exact ⟨_, op_le, r2_I0, by decide, by decide⟩
  | gt i j => exact ⟨_, op_gt, r2_I0, by decide, by decide⟩
  | ge i j => exact ⟨_, op_ge, r2_I0, by decide, by decide⟩
  | eqI i j => exact ⟨_, op_eq, fun _ _ q => ⟨rfl, by rw [dec_int']; exact q⟩, by decide, by decide⟩
  | neI i j => exact ⟨_, op_ne, fun _ _ q => ⟨rfl, by rw [dec_int']; exact q⟩, by decide, by decide⟩
  | eqS i j => exact ⟨_, op_eq, fun _ _ q => ⟨rfl, by rw [dec_str']; exact q⟩, by decide, by decide⟩
  | neS i j => exact ⟨_, op_ne, fun _ _ q => ⟨rfl, by rw [dec_str']; exact q⟩, by decide, by decide⟩
  | eqB i j => exact ⟨_, op_eq, fun _ _ q => ⟨rfl, by rw [dec_bl]; exact q⟩, by decide, by decide⟩
  | neB i j => exact ⟨_, op_ne, fun _ _ q => ⟨rfl, by rw [dec_bl]; exact q⟩, by decide, by decide⟩
  | isB i j => exact ⟨_, op_is_bl, fun _ _ q => ⟨i, j, rfl, rfl, q⟩, by decide, by decide⟩
  | notB i j => exact ⟨_, op_isnot_bl, fun _ _ q => ⟨i, j, rfl, rfl, q⟩, by decide, by decide⟩
  | isN x => exact ⟨_, op_isN, fun _ _ q => ⟨rfl, q⟩, by decide, by decide⟩
  | notN x => exact ⟨_, op_notN, fun _ _ q => ⟨rfl, q⟩, by decide, by decide⟩
theorem xe_cmp {op : CmpOp} {u w : V} {c : Bool} (ha : XE X ρ a (.v u)) (hb : XE X ρ b (.v w)) (h : Cmp op u w c) : XE X ρ (.Compare a [op] [b] pos) (.bl c) := by
  obtain ⟨r, h1, h2, h3, h4⟩ := h.rule (X := X)
  exact xw_cmp h1 ha.w hb.w h2 (nomark _ h3 h4)
theorem xt_cmpv {op : CmpOp} {u w : V} {c : Bool} (ha : XE X ρ a (.v u)) (hb : XE X ρ b (.v w)) (h : Cmp op u w c) : XT X ρ (.Compare a [op] [b] pos) c := by
  obtain ⟨r, h1, h2, h3, h4⟩ := h.rule (X := X)
  exact xt_cmp h1 ha hb h2 (nomark _ h3 h4)

/-! ### tests -/
theorem xt_val {c : Bool} (h : XE X ρ e (.bl c)) (he : ∀ whole, isTrue e X.env whole = (do let v ← whole; standAt e.pos; holding [v] (truthy v)) := by intro _; rfl) : XT X ρ e c :=
  PT.imp (pt_val h he) fun σ H Q ⟨Bv, Bs, Hv, g, k⟩ => ⟨Bv, Bs, Hv, g, fun v1 H1 Hv1 g1 e1 r1 => ⟨c, rp_v r1, k H1 Hv1 g1 e1⟩⟩
theorem xt_not {c : Bool} (h : XT X ρ a c) : XT X ρ (.UnaryOp .Not a pos) (!c) :=
  PT.imp (pt_not h) fun σ H Q ⟨Bv, Bs, Hv, g, k⟩ => ⟨Bv, Bs, Hv, g, fun H1 Hv1 g1 e1 => k H1 Hv1 g1 e1⟩
theorem xv_and1 {c : Bool} (h : XT X ρ a c) : XV X ρ (.BoolOp .And [a] pos) c := pw_and1 h
theorem xv_or1 {c : Bool} (h : XT X ρ a c) : XV X ρ (.BoolOp .Or [a] pos) c := pw_or1 h
theorem xv_and {c k : Bool} {rest : List Expr} (h : XT X ρ a c) (h2 : c = true → XV X ρ (.BoolOp .And (b :: rest) pos) k) : XV X ρ (.BoolOp .And (a :: b :: rest) pos) (c && k) := by
  cases c with
  | true =>
    exact PW.imp (pw_and h (h2 rfl)) fun σ H Q ⟨Bv, Bs, Hv, g, k⟩ => ⟨Bv, Bs, Hv, g, fun H1 Hv1 g1 e1 => iteT ⟨Bv, Bs, Hv1, g1, fun H2 Hv2 g2 e2 => k H2 Hv2 g2 (e1.trans e2)⟩⟩
  | false =>
    exact PW.imp (pw_and h (b := b) (rest := rest) (tB' := fun _ _ _ => False) ⟨fun _ _ _ _ _ _ _ h => h.elim⟩) fun σ H Q ⟨Bv, Bs, Hv, g, k⟩ => ⟨Bv, Bs, Hv, g, fun H1 Hv1 g1 e1 => iteF (k H1 Hv1 g1 e1)⟩
theorem xv_or {c k : Bool} {rest : List Expr} (h : XT X ρ a c) (h2 : c = false → XV X ρ (.BoolOp .Or (b :: rest) pos) k) : XV X ρ (.BoolOp .Or (a :: b :: rest) pos) (c || k) := by
  cases c with
  | false =>
    exact PW.imp (pw_or h (h2 rfl)) fun σ H Q ⟨Bv, Bs, Hv, g, k⟩ => ⟨Bv, Bs, Hv, g, fun H1 Hv1 g1 e1 => iteF ⟨Bv, Bs, Hv1, g1, fun H2 Hv2 g2 e2 => k H2 Hv2 g2 (e1.trans e2)⟩⟩
  | true =>
    exact PW.imp (pw_or h (b := b) (rest := rest) (tB' := fun _ _ _ => False) ⟨fun _ _ _ _ _ _ _ h => h.elim⟩) fun σ H Q ⟨Bv, Bs, Hv, g, k⟩ => ⟨Bv, Bs, Hv, g, fun H1 Hv1 g1 e1 => iteT (k H1 Hv1 g1 e1)⟩
theorem XV.t {c : Bool} (h : XV X ρ e c) : XT X ρ e c := PW.pt h
/-- and, or, not as values -/
theorem xe_one {op : BoolOp} {c : V} (h : XE X ρ a (.v c)) : XE X ρ (.BoolOp op [a] pos) (.v c) := pe_one h
theorem xe_andV {c k : Bool} {rest : List Expr} (h : XE X ρ a (.bl c)) (h2 : c = true → XE X ρ (.BoolOp .And (b :: rest) pos) (.bl k)) : XE X ρ (.BoolOp .And (a :: b :: rest) pos) (.bl (c && k)) := by
  cases c with
  | true =>
    exact PE.imp (pe_and h (h2 rfl)) fun σ H Q ⟨Bv, Bs, Hv, g, k⟩ => ⟨Bv, Bs, Hv, g, fun v1 H1 Hv1 g1 e1 r1 => ⟨true, rp_v r1, iteT ⟨Bv, Bs, Hv1, g1, fun v2 H2 Hv2 g2 e2 r2 => k v2 H2 Hv2 g2 (e1.trans e2) r2⟩⟩⟩
  | false =>
    exact PE.imp (pe_and h (b := b) (rest := rest) (tb := fun _ _ _ => False) ⟨fun _ _ _ _ _ _ h => h.elim⟩) fun σ H Q ⟨Bv, Bs, Hv, g, k⟩ => ⟨Bv, Bs, Hv, g, fun v1 H1 Hv1 g1 e1 r1 => ⟨false, rp_v r1, iteF (k _ H1 Hv1 g1 e1 rp_v')⟩⟩
theorem xe_orV {c k : Bool} {rest : List Expr} (h : XE X ρ a (.bl c)) (h2 : c = false → XE X ρ (.BoolOp .Or (b :: rest) pos) (.bl k)) : XE X ρ (.BoolOp .Or (a :: b :: rest) pos) (.bl (c || k)) := by
  cases c with
  | false =>
    exact PE.imp (pe_or h (h2 rfl)) fun σ H Q ⟨Bv, Bs, Hv, g, k⟩ => ⟨Bv, Bs, Hv, g, fun v1 H1 Hv1 g1 e1 r1 => ⟨false, rp_v r1, iteF ⟨Bv, Bs, Hv1, g1, fun v2 H2 Hv2 g2 e2 r2 => k v2 H2 Hv2 g2 (e1.trans e2) r2⟩⟩⟩
  | true =>
    exact PE.imp (pe_or h (b := b) (rest := rest) (tb := fun _ _ _ => False) ⟨fun _ _ _ _ _ _ h => h.elim⟩) fun σ H Q ⟨Bv, Bs, Hv, g, k⟩ => ⟨Bv, Bs, Hv, g, fun v1 H1 Hv1 g1 e1 r1 => ⟨true, rp_v r1, iteT (k _ H1 Hv1 g1 e1 rp_v')⟩⟩
theorem xe_notV {c : Bool} (h : XE X ρ a (.bl c)) : XE X ρ (.UnaryOp .Not a pos) (.bl (!c)) :=
  PE.imp (pe_not h) fun σ H Q ⟨Bv, Bs, Hv, g, k⟩ => ⟨Bv, Bs, Hv, g, fun v1 H1 Hv1 g1 e1 r1 => ⟨c, rp_v r1, k _ H1 Hv1 g1 e1 rp_v'⟩⟩
/-! ### arguments, tuples, lists -/
theorem xa_nil : XA X ρ [] [] := PA.imp pa_nil fun σ H Q ⟨Bv, Bs, Hv, g, k⟩ => k [] H Hv g (Vx.refl g.vx.vh) rpL_nil
theorem xa_cons {es : List Expr} {ds : List D} (h : XE X ρ e d) (t : XA X ρ es ds) (hs : starEach (e :: es) X.env = (false, eval e X.env) :: starEach es X.env := by rfl) : XA X ρ (e :: es) (d :: ds) :=
  PA.imp (pa_cons h t hs) fun σ H Q ⟨Bv, Bs, Hv, g, k⟩ => ⟨Bv, Bs, Hv, g, fun v1 H1 Hv1 g1 e1 r1 => ⟨Bv, Bs, Hv1, g1, fun vs H2 Hv2 g2 e2 r2 => k (v1 :: vs) H2 Hv2 g2 (e1.trans e2) (rpL_cons (rp_mono e2.vv r1) r2)⟩⟩
theorem xaw_nil : XAw X ρ [] [] := PA.imp pa_nil fun σ H Q ⟨Bv, Bs, Hv, g, k⟩ => k [] H Hv g (Vx.refl g.vx.vh) rpL_nil
theorem xaw_cons {es : List Expr} {ds : List D} (h : XW X ρ e d) (t : XAw X ρ es ds) (hs : starEach (e :: es) X.env = (false, eval e X.env) :: starEach es X.env := by rfl) : XAw X ρ (e :: es) (d :: ds) :=
  PA.imp (pa_cons h t hs) fun σ H Q ⟨Bv, Bs, Hv, g, k⟩ => ⟨Bv, Bs, Hv, g, fun v1 H1 Hv1 g1 e1 r1 => ⟨Bv, Bs, Hv1, g1, fun vs H2 Hv2 g2 e2 r2 => k (v1 :: vs) H2 Hv2 g2 (e1.trans e2) (rpL_cons (rp_mono e2.hh r1) r2)⟩⟩
theorem XA.w {es : List Expr} {ds : List D} (h : XA X ρ es ds) : XAw X ρ es ds := PA.imp h fun σ H Q ⟨Bv, Bs, Hv, g, k⟩ => ⟨Bv, Bs, Hv, g, fun v H' Hv' g' e1 r => k v H' Hv' g' e1 (rpL_mono g'.vx.vh r)⟩
/-- a new object lies in the view -/
theorem Sg.newV {K : PySem.W.Frag} {Bv Bs Hv H : Hp} {σ : L2.St} {p : Addr} {o : HO} (g : Sg K Bv Bs Hv H ρ σ) (h : H p = none) : Sg K Bv Bs (L2.upd Hv p o) (L2.upd H p o) ρ σ := by
  have h1 : Hv p = none := Evl.fresh_back g.vx.vh h
  refine g.go ⟨Ex.new h1, Ex.new h, fun a u e => ?_, fun a u e => ?_⟩
  · by_cases z : a = p
    · subst z
      rw [upd_same] at e ⊢
      exact e
    · rw [upd_ne z] at e ⊢
      exact g.vx.vh a u e
  · by_cases z : a = p
    · subst z
      exact .inr h
    · rw [upd_ne z] at e
      exact .inl e
/-- a new object lies in the heap alone -/
theorem Sg.newH {K : PySem.W.Frag} {Bv Bs Hv H : Hp} {σ : L2.St} {p : Addr} {o : HO} (g : Sg K Bv Bs Hv H ρ σ) (h : H p = none) : Sg K Bv Bs Hv (L2.upd H p o) ρ σ :=
  g.go ⟨Ex.refl _, Ex.new h, g.vx.vh.trans (Ex.new h), fun a u e => .inl e⟩
theorem xe_tup {es : List Expr} {ds : List D} {x1} (h : XA X ρ es ds) (hl : ds.length ≤ 1000 := by simp only [List.length_cons, List.length_nil]; decide) : XE X ρ (.Tuple es x1 pos) (.tup ds) :=
  PE.imp (pe_tup h) fun σ H Q ⟨Bv, Bs, Hv, g, k⟩ => ⟨Bv, Bs, Hv, g, fun vs H1 Hv1 g1 e1 r1 => ⟨by
    rw [rpL_len r1]
    exact Evl.sz_of (by omega), fun p hp => by
    have n1 : Hv1 p = none := Evl.fresh_back g1.vx.vh hp
    refine k _ _ _ (g1.newV hp) (e1.trans (Vx.newV g1.vx.vh hp)) ?_
    unfold Rp
    exact ⟨p, vs, rfl, .inl (.inl upd_same), rpL_mono (Ex.new n1) r1⟩⟩⟩
theorem xo_lst {es : List Expr} {ds : List D} (h : XA X ρ es ds) (hl : ds.length ≤ 1000 := by simp only [List.length_cons, List.length_nil]; decide) : XO X ρ (.List es pos) ds :=
  PE.imp (pe_lst h) fun σ H Q ⟨Bv, Bs, Hv, g, k⟩ => ⟨Bv, Bs, Hv, g, fun vs H1 Hv1 g1 e1 r1 => ⟨by
    rw [rpL_len r1]
    exact Evl.sz_of (by omega), fun p hp => by
    have n1 : Hv1 p = none := Evl.fresh_back g1.vx.vh hp
    exact k p vs _ _ (g1.newH hp) (e1.trans (Vx.newH g1.vx.vh hp)) (Evl.fresh_back g1.vx.hh hp) n1 upd_same r1 (g1.notOwn_new hp) (Evl.fresh_back e1.hh hp)⟩⟩
end
end PL
namespace PL
open PySem PySem.Spec L2
open Evl (Ex)

/-- nothing is let out -/
theorem passN {X : Cx} : Passes (L2N.CX X.prog X.w) X E0 := fun _ _ _ _ _ _ _ h => by
  obtain ⟨_, _, _, _, _, _, _, _, _, _, _, _, z⟩ := h
  exact z.elim
open PyProof.Rows in
theorem okN {P : Program} {w : World} {K : PySem.W.Frag} {mg : Str → Option Value} {base : Heap} {x qual : Str} {st : Stmt} {f : Addr} {fd : FuncData} {N ps : List Str} {k : Nat} {sp : Sp} (F : Fun K x qual st f fd) (S : FnScope N ps (defScope st)) (len : ∀ vs H Q E, sp vs H Q E → vs.length = ps.length)
    (hbody : ∀ (cdv : Value) (A : Around) (outer : List Env) (s : Shared) (H : Hp) (vs : List V) (Q : VK) (E : XK), Room k (A.deeper (envOfC qual (defScope st) s.heap.objs.size f cdv)) → sp vs H Q E →
      ∃ t, PSs (cxOf (L2N.CX P w) P w K mg base N qual (defScope st) f cdv A outer s H E) (defBody st) t ∧ t { nx := fun _ H' => Q .non H', rt := Q } (start N vs) H) : FnOk P w K mg base (L2N.CX P w) (k + 1) f fd ps sp := by
  obtain ⟨oc, od, kV, doc, pm, an, cdv, ct, osl, rfl, lk, hcd⟩ := F.ex
  exact fn_of lk hcd S len fun A outer s H vs Q E hr hsp => hbody cdv A outer s H vs Q E hr hsp
/-! ### what a def gives -/
inductive Ro where
  | val (d : D)
  /-- a new list -/
  | fr (l : List D)
  /-- an exception of the class at C, its own fields -/
  | exc (C : Addr) (ns : List Str) (ds : List D)
  /-- a pair; lists in it may be new ones -/
  | frP (a b : E)
  | bad
/-- an item of a new pair: data, or a list that nothing else names -/
def AtN (K : PySem.W.Frag) (H Hv' H' : Hp) : E → V → Prop
  | .val d, v => Rp K Hv' d v
  | .own l, v => ∃ q ys, v = .ref q ∧ H q = none ∧ Hv' q = none ∧ H' q = some (.lst ys) ∧ RpL K Hv' l ys
  | _, _ => False
def Sep2 (a b : E) (x y : V) : Prop := isOwn a = true → isOwn b = true → x ≠ y
def FinR (K : PySem.W.Frag) (Hv H : Hp) (Q : VK) (E : XK) : Ro → Prop
  | .val d => ∀ v H' Hv', Vx Hv H Hv' H' → Rp K Hv' d v → Q v H'
  | .fr l => ∀ p xs H' Hv', Vx Hv H Hv' H' → H p = none → Hv' p = none → H' p = some (.lst xs) → RpL K Hv' l xs → Q (.ref p) H'
  | .exc C ns ds => ∀ od H' Hv', Vx Hv H Hv' H' → ExAt K Hv' ns ds od → E (.ref C) od H'
  | .frP a b => ∀ p x y H' Hv', Vx Hv H Hv' H' → Hv' p = some (.tup [x, y]) → AtN K H Hv' H' a x → AtN K H Hv' H' b y → Sep2 a b x y → Q (.ref p) H'
  | .bad => False
def spD (K : PySem.W.Frag) (n : Nat) (φ : List D → Ro) : Sp := fun vs H Q E => ∃ Hv ds, Ex Hv H ∧ RpL K Hv ds vs ∧ ds.length = n ∧ FinR K Hv H Q E (φ ds)
structure FnC (P : Program) (w : World) (K : PySem.W.Frag) (mg : Str → Option Value) (base : Heap) (x : Str) (k n : Nat) (φ : List D → Ro) : Prop where
  ex : ∃ f fd ps, mg x = some (.ref f) ∧ FnOk P w K mg base (L2N.CX P w) k f fd ps (spD K n φ) ∧ PySem.W.keepIn K (.ref f) = true ∧ Binds K fd ps []

/-- what stands around a body -/
structure Bd (X : Cx) (W : WX) (k : Nat) : Prop where
  nd : X.N.Nodup
  calm : X.calm = true
  room : Room k X.A
  po : PassesOwn (model X.prog X.w) X.A X.env X.xe
  tk : L2N.Takes X W
  fn : ∀ x, X.fn x = true

section
variable {X : Cx} {ρ ρ' : List E} {e a b : Expr} {es : List Expr} {d : D} {ds l : List D} {pos p : Pos} {s : Str} {k n : Nat} {φ : List D → Ro}

theorem xe_call (F : FnC X.prog X.w X.K X.mg X.base s k n φ) (hr : Room k X.A) (hg : Gl X s) (ha : XA X ρ (e :: es) ds) (hn : ds.length = n) (hφ : φ ds = .val d) (hdb : (s == ("__debug__" : Str)) = false := by decide)
    (he : starEach (e :: es) X.env = (false, eval e X.env) :: starEach es X.env := by rfl) (hpl : (backTo pos (starEach es X.env)).any (·.1) = false := by rfl) : XE X ρ (.Call (.Name s p) (e :: es) [] pos) d := by
  obtain ⟨f, fd, ps, hm, F, hk, hb⟩ := F.ex
  refine PE.imp (pe_call F hr hg hm hk hb .nil (passN (X := X)) ha hdb he hpl) fun σ H Q ⟨Bv, Bs, Hv, g, k⟩ => ⟨Bv, Bs, Hv, g, fun vs H1 Hv1 g1 e1 r1 => ?_⟩
  refine ⟨Hv1, ds, g1.vx.vh, by rw [List.append_nil]; exact r1, hn, ?_⟩
  rw [hφ]
  exact fun v H' Hv' x r => k v H' Hv' (g1.go x) (e1.trans x) r
theorem xo_call (F : FnC X.prog X.w X.K X.mg X.base s k n φ) (hr : Room k X.A) (hg : Gl X s) (ha : XA X ρ (e :: es) ds) (hn : ds.length = n) (hφ : φ ds = .fr l) (hdb : (s == ("__debug__" : Str)) = false := by decide)
    (he : starEach (e :: es) X.env = (false, eval e X.env) :: starEach es X.env := by rfl) (hpl : (backTo pos (starEach es X.env)).any (·.1) = false := by rfl) : XO X ρ (.Call (.Name s p) (e :: es) [] pos) l := by
  obtain ⟨f, fd, ps, hm, F, hk, hb⟩ := F.ex
  refine PE.imp (pe_call F hr hg hm hk hb .nil (passN (X := X)) ha hdb he hpl) fun σ H Q ⟨Bv, Bs, Hv, g, k⟩ => ⟨Bv, Bs, Hv, g, fun vs H1 Hv1 g1 e1 r1 => ?_⟩
  refine ⟨Hv1, ds, g1.vx.vh, by rw [List.append_nil]; exact r1, hn, ?_⟩
  rw [hφ]
  exact fun p xs H' Hv' x h1 h2 h3 r => k p xs H' Hv' (g1.go x) (e1.trans x) (Evl.fresh_back g1.vx.hh h1) h2 h3 r (g1.notOwn_new h1) (Evl.fresh_back e1.hh h1)
/-- an expression that raises -/
def tX (K : PySem.W.Frag) (W : WX) (ρ : List E) (C : Addr) (ns : List Str) (ds : List D) : TE := fun σ H _ => ∃ Bv Bs Hv, Sg K Bv Bs Hv H ρ σ ∧ ∀ od H' Hv', Sg K Bv Bs Hv' H' ρ σ → ExAt K Hv' ns ds od → W (.ref C) od σ H'
abbrev XX (X : Cx) (W : WX) (ρ : List E) (e : Expr) (C : Addr) (ns : List Str) (ds : List D) : Prop := PE X e (tX X.K W ρ C ns ds)
theorem xx_call {W : WX} {C : Addr} {ns : List Str} {xs : List D} (F : FnC X.prog X.w X.K X.mg X.base s k n φ) (hr : Room k X.A) (tk : L2N.Takes X W) (hg : Gl X s) (ha : XA X ρ (e :: es) ds) (hn : ds.length = n) (hφ : φ ds = .exc C ns xs) (hdb : (s == ("__debug__" : Str)) = false := by decide)
    (he : starEach (e :: es) X.env = (false, eval e X.env) :: starEach es X.env := by rfl) (hpl : (backTo pos (starEach es X.env)).any (·.1) = false := by rfl) : XX X W ρ (.Call (.Name s p) (e :: es) [] pos) C ns xs := by
  obtain ⟨f, fd, ps, hm, F, hk, hb⟩ := F.ex
  refine PE.imp (pe_callS F hr hg hm hk hb (fun σ => L2N.passAt tk σ) ha hdb he hpl) fun σ H Q ⟨Bv, Bs, Hv, g, k⟩ => ⟨Bv, Bs, Hv, g, fun vs H1 Hv1 g1 e1 r1 => ?_⟩
  refine ⟨Hv1, ds, g1.vx.vh, r1, hn, ?_⟩
  rw [hφ]
  exact fun od H' Hv' x r => k od H' Hv' (g1.go x) r

/-! ### subscripts, len, slices -/
theorem rp_lst {K : PySem.W.Frag} {H : Hp} {u : V} (h : Rp K H (.lst l) u) : ∃ a xs, u = .ref a ∧ SqL K H a xs ∧ RpL K H l xs := by
  unfold Rp at h
  exact h
theorem rp_tup {K : PySem.W.Frag} {H : Hp} {u : V} (h : Rp K H (.tup l) u) : ∃ a xs, u = .ref a ∧ SqT K H a xs ∧ RpL K H l xs := by
  unfold Rp at h
  exact h
theorem atI_rel {K : PySem.W.Frag} {H : Hp} {xs : List V} {i : Int} (r : RpL K H l xs) (h : atI l i = some d) : ∃ v, atI xs i = some v ∧ Rp K H d v := by
  have hl := rpL_len r
  unfold atI at h ⊢
  rw [hl]
  cases q : ixN l.length i with
  | none =>
    rw [q] at h
    cases h
  | some j =>
    rw [q] at h
    exact rpL_get r h
theorem xe_ixL {i : Int} (ha : XE X ρ a (.lst l)) (hb : XE X ρ b (.int i)) (hi : atI l i = some d) (hs : PlainIx b := by exact fun _ _ => rfl) : XE X ρ (.Subscript a b pos) d :=
  PE.imp (pe_ix ix_list ha hb hs) fun σ H Q ⟨Bv, Bs, Hv, g, k⟩ => ⟨Bv, Bs, Hv, g, fun v1 H1 Hv1 g1 e1 r1 => ⟨Bv, Bs, Hv1, g1, fun v2 H2 Hv2 g2 e2 r2 => by
    obtain ⟨q, xs, rfl, h1, h2⟩ := rp_lst (rp_mono e2.vv r1)
    obtain ⟨v, h3, h4⟩ := atI_rel h2 hi
    exact ⟨q, xs, i, v, rfl, rp_v r2, Evl.ex_l g2.vx.vh h1, h3, k v H2 Hv2 g2 (e1.trans e2) h4⟩⟩⟩
theorem xe_ixT {i : Int} (ha : XE X ρ a (.tup l)) (hb : XE X ρ b (.int i)) (hi : atI l i = some d) (hs : PlainIx b := by exact fun _ _ => rfl) : XE X ρ (.Subscript a b pos) d :=
  PE.imp (pe_ix ix_tup ha hb hs) fun σ H Q ⟨Bv, Bs, Hv, g, k⟩ => ⟨Bv, Bs, Hv, g, fun v1 H1 Hv1 g1 e1 r1 => ⟨Bv, Bs, Hv1, g1, fun v2 H2 Hv2 g2 e2 r2 => by
    obtain ⟨q, xs, rfl, h1, h2⟩ := rp_tup (rp_mono e2.vv r1)
    obtain ⟨v, h3, h4⟩ := atI_rel h2 hi
    exact ⟨q, xs, i, v, rfl, rp_v r2, Evl.ex_t g2.vx.vh h1, h3, k v H2 Hv2 g2 (e1.trans e2) h4⟩⟩⟩
theorem xe_ixS {i : Int} {z : Str} {c : Nat} (ha : XE X ρ a (.str z)) (hb : XE X ρ b (.int i)) (hz : z.length ≤ sizeLine) (hi : atI z.cps.toList i = some c) (hs : PlainIx b := by exact fun _ _ => rfl) : XE X ρ (.Subscript a b pos) (.str ⟨#[c]⟩) :=
  PE.imp (pe_ix ix_str ha hb hs) fun σ H Q ⟨Bv, Bs, Hv, g, k⟩ => ⟨Bv, Bs, Hv, g, fun v1 H1 Hv1 g1 e1 r1 => ⟨Bv, Bs, Hv1, g1, fun v2 H2 Hv2 g2 e2 r2 =>
    ⟨z, i, c, rp_v r1, rp_v r2, hz, hi, k _ H2 Hv2 g2 (e1.trans e2) rp_v'⟩⟩⟩
/-- a built-in's call upon plain values -/
theorem xe_callB {r : List V → Hp → VK → Prop} {id : String} {us : List V} {z : V} (hc : CallR X (.builtin id) r) (hg : Gl X s) (hm : X.mg s = none) (hv : bootBuiltins s = some (.builtin id)) (ha : XA X ρ (e :: es) (us.map D.v)) (hr : ∀ H Q, Q z H → r us H Q)
    (hn : s ≠ "__name__" := by decide) (hdb : (s == ("__debug__" : Str)) = false := by decide) (he : starEach (e :: es) X.env = (false, eval e X.env) :: starEach es X.env := by rfl) (hpl : (backTo pos (starEach es X.env)).any (·.1) = false := by rfl) :
    XE X ρ (.Call (.Name s p) (e :: es) [] pos) (.v z) :=
  PE.imp (pe_callB hc hg hm hv ha hn hdb he hpl) fun σ H Q ⟨Bv, Bs, Hv, g, k⟩ => ⟨Bv, Bs, Hv, g, fun vs H1 Hv1 g1 e1 r1 => by
    rw [rpL_vs r1]
    exact hr _ _ (k z H1 Hv1 g1 e1 rp_v')⟩
theorem xe_callT {r : List V → Hp → VK → Prop} {id : String} {us : List V} {z : V} (hc : CallR X (.type id) r) (hg : Gl X s) (hm : X.mg s = none) (hv : bootBuiltins s = some (.type id)) (ha : XA X ρ (e :: es) (us.map D.v)) (hr : ∀ H Q, Q z H → r us H Q)
    (hn : s ≠ "__name__" := by decide) (hdb : (s == ("__debug__" : Str)) = false := by decide) (he : starEach (e :: es) X.env = (false, eval e X.env) :: starEach es X.env := by rfl) (hpl : (backTo pos (starEach es X.env)).any (·.1) = false := by rfl) :
    XE X ρ (.Call (.Name s p) (e :: es) [] pos) (.v z) :=
  PE.imp (pe_callTy hc hg hm hv ha hn hdb he hpl) fun σ H Q ⟨Bv, Bs, Hv, g, k⟩ => ⟨Bv, Bs, Hv, g, fun vs H1 Hv1 g1 e1 r1 => by
    rw [rpL_vs r1]
    exact hr _ _ (k z H1 Hv1 g1 e1 rp_v')⟩
theorem xe_lenL (hg : Gl X "len") (hm : X.mg "len" = none) (ha : XW X ρ e (.lst l)) (he : starEach (e :: []) X.env = (false, eval e X.env) :: starEach [] X.env := by rfl) (hpl : (backTo pos (starEach [] X.env)).any (·.1) = false := by rfl) : XE X ρ (.Call (.Name "len" p) [e] [] pos) (.int l.length) :=
  PE.imp (pe_callB call_len_seq hg hm PySem.boot_len (xaw_cons ha xaw_nil he) (he := he) (hpl := hpl)) fun σ H Q ⟨Bv, Bs, Hv, g, k⟩ => ⟨Bv, Bs, Hv, g, fun vs H1 Hv1 g1 e1 r1 => by
    obtain ⟨x, r, rfl, h1, h2⟩ := rpL_cons_inv r1
    rw [rpL_nil_inv h2]
    obtain ⟨q, xs, rfl, h3, h4⟩ := rp_lst h1
    refine ⟨q, xs, rfl, .inl h3, ?_⟩
    rw [rpL_len h4]
    exact k _ H1 Hv1 g1 e1 rp_v'⟩
theorem xe_lenT (hg : Gl X "len") (hm : X.mg "len" = none) (ha : XW X ρ e (.tup l)) (he : starEach (e :: []) X.env = (false, eval e X.env) :: starEach [] X.env := by rfl) (hpl : (backTo pos (starEach [] X.env)).any (·.1) = false := by rfl) : XE X ρ (.Call (.Name "len" p) [e] [] pos) (.int l.length) :=
  PE.imp (pe_callB call_len_seq hg hm PySem.boot_len (xaw_cons ha xaw_nil he) (he := he) (hpl := hpl)) fun σ H Q ⟨Bv, Bs, Hv, g, k⟩ => ⟨Bv, Bs, Hv, g, fun vs H1 Hv1 g1 e1 r1 => by
    obtain ⟨x, r, rfl, h1, h2⟩ := rpL_cons_inv r1
    rw [rpL_nil_inv h2]
    obtain ⟨q, xs, rfl, h3, h4⟩ := rp_tup h1
    refine ⟨q, xs, rfl, .inr h3, ?_⟩
    rw [rpL_len h4]
    exact k _ H1 Hv1 g1 e1 rp_v'⟩
theorem xe_lenS {z : Str} (hg : Gl X "len") (hm : X.mg "len" = none) (ha : XE X ρ e (.str z)) (hz : z.length ≤ sizeLine) (he : starEach (e :: []) X.env = (false, eval e X.env) :: starEach [] X.env := by rfl) (hpl : (backTo pos (starEach [] X.env)).any (·.1) = false := by rfl) : XE X ρ (.Call (.Name "len" p) [e] [] pos) (.int z.length) :=
  xe_callB (us := [.str z]) call_len_str hg hm PySem.boot_len (xa_cons ha xa_nil he) (fun _ _ q => ⟨z, rfl, hz, q⟩) (he := he) (hpl := hpl)
theorem xe_min2 {i j : Int} (hc : X.calm = true) (hg : Gl X "min") (hm : X.mg "min" = none) (ha : XA X ρ [a, b] [.int i, .int j]) (he : starEach [a, b] X.env = (false, eval a X.env) :: starEach [b] X.env := by rfl) (hpl : (backTo pos (starEach [b] X.env)).any (·.1) = false := by rfl) : XE X ρ (.Call (.Name "min" p) [a, b] [] pos) (.int (min i j)) :=
  xe_callB (us := [.int i, .int j]) (call_min2 hc) hg hm (by decide +kernel) ha (fun _ _ q => ⟨i, j, rfl, by
    rw [show (if j < i then j else i) = min i j by split <;> omega]
    exact q⟩) (he := he) (hpl := hpl)
theorem xe_abs {i : Int} (hg : Gl X "abs") (hm : X.mg "abs" = none) (ha : XE X ρ e (.int i)) (he : starEach (e :: []) X.env = (false, eval e X.env) :: starEach [] X.env := by rfl) (hpl : (backTo pos (starEach [] X.env)).any (·.1) = false := by rfl) : XE X ρ (.Call (.Name "abs" p) [e] [] pos) (.int (if i < 0 then -i else i)) :=
  xe_callB (us := [.int i]) call_abs hg hm (by decide +kernel) (xa_cons ha xa_nil he) (fun _ _ q => ⟨i, rfl, q⟩) (he := he) (hpl := hpl)
theorem xe_intB {c : Bool} (hg : Gl X "int") (hm : X.mg "int" = none) (ha : XE X ρ e (.bl c)) (he : starEach (e :: []) X.env = (false, eval e X.env) :: starEach [] X.env := by rfl) (hpl : (backTo pos (starEach [] X.env)).any (·.1) = false := by rfl) : XE X ρ (.Call (.Name "int" p) [e] [] pos) (.int (if c then 1 else 0)) :=
  xe_callT (us := [.bl c]) call_int1 hg hm (by decide +kernel) (xa_cons ha xa_nil he) (fun _ _ q => .inr ⟨c, rfl, q⟩) (he := he) (hpl := hpl)
end
end PL
namespace PL
open PySem PySem.Spec L2
open Evl (Ex)

/-! ### statements -/
inductive Out where
  | nx (ρ : List E)
  | ret (d : D)
  | retO (l : List D)
  | retP (a b : E)
  | bk (ρ : List E)
  | ct (ρ : List E)
  | exc (C : Addr) (ns : List Str) (ds : List D) (ρ : List E)
def Fin (K : PySem.W.Frag) (W : WX) (Bv Bs : Hp) (D : Ends) : Out → Prop
  | .nx ρ => ∀ σ H Hv, Sg K Bv Bs Hv H ρ σ → D.nx σ H
  | .ret d => ∀ v H Hv, Vx Bv Bs Hv H → Rp K Hv d v → D.rt v H
  | .retO l => ∀ p xs H Hv, Vx Bv Bs Hv H → Bs p = none → Hv p = none → H p = some (.lst xs) → RpL K Hv l xs → D.rt (.ref p) H
  | .retP a b => ∀ p x y H Hv, Vx Bv Bs Hv H → Hv p = some (.tup [x, y]) → AtN K Bs Hv H a x → AtN K Bs Hv H b y → Sep2 a b x y → D.rt (.ref p) H
  | .bk ρ => ∀ σ H Hv, Sg K Bv Bs Hv H ρ σ → D.bk σ H
  | .ct ρ => ∀ σ H Hv, Sg K Bv Bs Hv H ρ σ → D.ct σ H
  | .exc C ns ds ρ => ∀ od σ H Hv, Sg K Bv Bs Hv H ρ σ → ExAt K Hv ns ds od → W (.ref C) od σ H
def tS (K : PySem.W.Frag) (W : WX) (ρ : List E) (o : Out) : TS := fun D σ H => ∃ Bv Bs Hv, Sg K Bv Bs Hv H ρ σ ∧ Fin K W Bv Bs D o
abbrev XS (X : Cx) (W : WX) (ρ : List E) (st : Stmt) (o : Out) : Prop := PS X st (tS X.K W ρ o)
abbrev XB (X : Cx) (W : WX) (ρ : List E) (sts : List Stmt) (o : Out) : Prop := PSs X sts (tS X.K W ρ o)
/-- an outcome that does not go on -/
def Stop : Out → Prop
  | .nx _ => False
  | _ => True
/-- the ends for what follows -/
theorem Fin.seq {K : PySem.W.Frag} {W : WX} {Bv Bs : Hp} {D : Ends} {n : L2.St → Hp → Prop} {o : Out} (h : Fin K W Bv Bs D o) (s : Stop o) : Fin K W Bv Bs { D with nx := n } o := by
  cases o with
  | nx ρ => exact s.elim
  | _ => exact h

section
variable {X : Cx} {W : WX} {ρ ρ' ρ1 ρ2 : List E} {e a b c tg : Expr} {st : Stmt} {sts rest body : List Stmt} {es : List Expr} {d : D} {ds l : List D} {pos p p' : Pos} {s : Str} {k n : Nat} {o o1 : Out} {B : Bool}

theorem xb_nil : XB X W ρ [] (.nx ρ) := PSs.imp pss_nil fun D σ H ⟨Bv, Bs, Hv, g, k⟩ => k σ H Hv g
theorem xb_cons (h : XS X W ρ st (.nx ρ1)) (t : XB X W ρ1 rest o) : XB X W ρ (st :: rest) o :=
  PSs.imp (pss_cons h t) fun D σ H ⟨Bv, Bs, Hv, g, k⟩ => ⟨Bv, Bs, Hv, g, fun σ' H' Hv' g' => ⟨Bv, Bs, Hv', g', k⟩⟩
theorem xb_stop (h : XS X W ρ st o) (q : Stop o) : XB X W ρ (st :: rest) o :=
  PSs.imp (pss_cons h (u := tNever) pss_never) fun D σ H ⟨Bv, Bs, Hv, g, k⟩ => ⟨Bv, Bs, Hv, g, k.seq q⟩
theorem xb_freeze (i : Nat) (hi : ρ[i]? = some (.own l)) (h : XB X W (ρ.set i (.val (.lst l))) sts o) : XB X W ρ sts o := PSs.imp h fun D σ H ⟨Bv, Bs, Hv, g, k⟩ => by
  obtain ⟨Hv', e, g'⟩ := g.freeze hi
  exact ⟨Bv, Bs, Hv', g', k⟩
theorem XS.wkO (h : XS X W ρ st (.nx ρ1)) (w : WkL ρ1 ρ2) : XS X W ρ st (.nx ρ2) := PS.imp h fun D σ H ⟨Bv, Bs, Hv, g, k⟩ => ⟨Bv, Bs, Hv, g, fun σ' H' Hv' g' => k σ' H' Hv' (g'.wk w)⟩
theorem XB.wkO (h : XB X W ρ sts (.nx ρ1)) (w : WkL ρ1 ρ2) : XB X W ρ sts (.nx ρ2) := PSs.imp h fun D σ H ⟨Bv, Bs, Hv, g, k⟩ => ⟨Bv, Bs, Hv, g, fun σ' H' Hv' g' => k σ' H' Hv' (g'.wk w)⟩
theorem XB.is (h : XB X W ρ sts o) (q : o = o1) : XB X W ρ sts o1 := q ▸ h
theorem XS.is (h : XS X W ρ st o) (q : o = o1) : XS X W ρ st o1 := q ▸ h
theorem xs_ret (h : XE X ρ e d) : XS X W ρ (.Return (some e) pos) (.ret d) := PS.imp (ps_ret h) fun D σ H ⟨Bv, Bs, Hv, g, k⟩ => ⟨Bv, Bs, Hv, g, fun v H' Hv' g' _ r => k v H' Hv' g'.vx r⟩
theorem xs_retO (h : XO X ρ e l) : XS X W ρ (.Return (some e) pos) (.retO l) := PS.imp (ps_ret h) fun D σ H ⟨Bv, Bs, Hv, g, k⟩ => ⟨Bv, Bs, Hv, g, fun p xs H' Hv' g' _ h1 h2 h3 r _ _ => k p xs H' Hv' g'.vx h1 h2 h3 r⟩
/-- the list in a slot of one's own goes out -/
theorem xs_retOwn (i : Nat) (hN : X.N[i]? = some s) (hv : Vis X.env.scope s) (hr : ρ[i]? = some (.own l)) (hd : (s == ("__debug__" : Str)) = false := by decide) (hcd : (s == ("__classdict__" : Str)) = false := by decide) : XS X W ρ (.Return (some (.Name s p)) pos) (.retO l) :=
  PS.imp (ps_ret (pe_var (i := i) hN hv hd hcd)) fun D σ H ⟨Bv, Bs, Hv, g, k⟩ => by
    obtain ⟨q, xs, h1, h2, h3, h4, h5⟩ := g.own hr
    exact ⟨_, h1, k q xs H Hv g.vx h2 h3 h4 h5⟩
theorem xs_set (i : Nat) (hN : X.N.Nodup) (hi : X.N[i]? = some s) (hx : Loc X.env.scope s) (hf : X.fn s = true) (h : XE X ρ e d) (hs : swapsWith e (some (.Name s p')) pos.line X.env = pure false := by rfl) : XS X W ρ (.Assign [.Name s p'] e pos) (.nx (ρ.set i (.val d))) :=
  PS.imp (ps_set hN hi hx h hs (.inl hf)) fun D σ H ⟨Bv, Bs, Hv, g, k⟩ => ⟨Bv, Bs, Hv, g, fun v H' Hv' g' _ r => k _ H' Hv' (g'.set r)⟩
theorem xs_setO (i : Nat) (hN : X.N.Nodup) (hi : X.N[i]? = some s) (hx : Loc X.env.scope s) (hf : X.fn s = true) (h : XO X ρ e l) (hs : swapsWith e (some (.Name s p')) pos.line X.env = pure false := by rfl) : XS X W ρ (.Assign [.Name s p'] e pos) (.nx (ρ.set i (.own l))) :=
  PS.imp (ps_set hN hi hx h hs (.inl hf)) fun D σ H ⟨Bv, Bs, Hv, g, k⟩ => ⟨Bv, Bs, Hv, g, fun p xs H' Hv' g' _ h1 h2 h3 r h5 _ => k _ H' Hv' (g'.setOwn h1 h2 h3 r h5)⟩
/-- an if: one way -/
theorem xs_if (h : XT X ρ c B) (h1 : B = true → XB X W ρ sts o) (h2 : B = false → XB X W ρ rest o) : XS X W ρ (.If c sts rest pos) o := by
  cases B with
  | true => exact PS.imp (ps_if h (h1 rfl) (u := tNever) pss_never) fun D σ H ⟨Bv, Bs, Hv, g, k⟩ => ⟨Bv, Bs, Hv, g, fun H' Hv' g' _ => iteT ⟨Bv, Bs, Hv', g', k⟩⟩
  | false => exact PS.imp (ps_if h (t := tNever) pss_never (h2 rfl)) fun D σ H ⟨Bv, Bs, Hv, g, k⟩ => ⟨Bv, Bs, Hv, g, fun H' Hv' g' _ => iteF ⟨Bv, Bs, Hv', g', k⟩⟩
/-- an if without else that leaves; then the rest -/
theorem xb_if {more : List Stmt} (h : XT X ρ c B) (h1 : B = true → XB X W ρ sts o ∧ Stop o) (h2 : B = false → XB X W ρ more o) : XB X W ρ (.If c sts [] pos :: more) o := by
  cases B with
  | true => exact xb_stop (xs_if h (fun _ => (h1 rfl).1) nofun) (h1 rfl).2
  | false => exact xb_cons (xs_if h nofun fun _ => xb_nil) (h2 rfl)
/-- xs.append(e), xs a list of one's own -/
theorem xs_app (i : Nat) {ap : Pos} {p1 : Pos} (hN : X.N[i]? = some s) (hv : Vis X.env.scope s) (hr : ρ[i]? = some (.own l)) (h : XE X ρ e d) (hl : l.length < 100000)
    (hm : PE X (.Call (.Attribute (.Name s p') "append" ap) [e] [] p1) (tBM X.K "list" rAppend (tVar i) (tCons (tD X.K ρ d) tNil))) (hs : swapsWith (.Call (.Attribute (.Name s p') "append" ap) [e] [] p1) none pos.line X.env = pure false := by rfl) :
    XS X W ρ (.Expr (.Call (.Attribute (.Name s p') "append" ap) [e] [] p1) pos) (.nx (ρ.set i (.own (l ++ [d])))) :=
  PS.imp (ps_expr hm hs) fun D σ H ⟨Bv, Bs, Hv, g, k⟩ => by
    obtain ⟨q, xs, h1, h2, h3, h4, h5⟩ := g.own hr
    refine ⟨.ref q, h1, .inl ⟨rfl, _, .inl (.inl h4)⟩, Bv, Bs, Hv, g, fun v H' Hv' g' e1 r => ?_⟩
    obtain ⟨q', xs', h1', h2', h3', h4', h5'⟩ := g'.own hr
    rw [h1] at h1'
    cases h1'
    refine ⟨q, xs', v, rfl, rfl, h4', Evl.sz_lt (by rw [rpL_len h5']; exact hl), ?_⟩
    exact k _ _ Hv' (g'.upd hr h1 (rpL_app h5' (rpL_cons r rpL_nil)))
theorem xs_setX {i : Nat} {C : Addr} {ns : List Str} (hN : X.N.Nodup) (hi : X.N[i]? = some s) (hx : Loc X.env.scope s) (hf : X.fn s = true) (h : XX X W ρ e C ns ds) (hs : swapsWith e (some (.Name s p')) pos.line X.env = pure false := by rfl) : XS X W ρ (.Assign [.Name s p'] e pos) (.exc C ns ds ρ) :=
  PS.imp (ps_set hN hi hx h hs (.inl hf)) fun D σ H ⟨Bv, Bs, Hv, g, k⟩ => ⟨Bv, Bs, Hv, g, fun od H' Hv' g' x => k od σ H' Hv' g' x⟩

/-! ### targets -/
def tG (K : PySem.W.Frag) (ρ : List E) (d : D) (ρ' : List E) : TG := fun v σ H Q => ∃ Bv Bs Hv, Sg K Bv Bs Hv H ρ σ ∧ Rp K Hv d v ∧ ∀ σ', Sg K Bv Bs Hv H ρ' σ' → Q σ' H
def tGs (K : PySem.W.Frag) (ρ : List E) (ds : List D) (ρ' : List E) : TGs := fun vs σ H Q => ∃ Bv Bs Hv, Sg K Bv Bs Hv H ρ σ ∧ RpL K Hv ds vs ∧ ∀ σ', Sg K Bv Bs Hv H ρ' σ' → Q σ' H
abbrev XG (X : Cx) (ρ : List E) (tg : Expr) (d : D) (ρ' : List E) : Prop := PG X tg (tG X.K ρ d ρ')
abbrev XGs (X : Cx) (ρ : List E) (tgs : List Expr) (ds : List D) (ρ' : List E) : Prop := PGs X tgs (tGs X.K ρ ds ρ')
theorem PGs.imp {tgs : List Expr} {t t' : TGs} (h : PGs X tgs t) (i : ∀ v σ H Q, t' v σ H Q → t v σ H Q) : PGs X tgs t' := ⟨fun pins s σ H v u Q I r w => h.run pins s σ H v u Q I r (i v σ H Q w)⟩
theorem xg_name (i : Nat) (hN : X.N.Nodup) (hi : X.N[i]? = some s) (hx : Loc X.env.scope s) (hf : X.fn s = true ∨ X.env.scope.names.lookup s = some .local) : XG X ρ (.Name s p) d (ρ.set i (.val d)) :=
  PG.imp (pg_name (i := i) hN hi hx hf) fun v σ H Q ⟨Bv, Bs, Hv, g, r, k⟩ => k _ (g.set r)
theorem xgs_nil : XGs X ρ [] [] ρ := PGs.imp pgs_nil fun v σ H Q ⟨Bv, Bs, Hv, g, r, k⟩ => ⟨rpL_nil_inv r, k _ g⟩
theorem xgs_cons {tgs : List Expr} (h : XG X ρ tg d ρ1) (t : XGs X ρ1 tgs ds ρ2) (hs : (assignEach (tg :: tgs) X.env).map (·.2) = assign tg X.env :: (assignEach tgs X.env).map (·.2) := by rfl) : XGs X ρ (tg :: tgs) (d :: ds) ρ2 :=
  PGs.imp (pgs_cons h t hs) fun v σ H Q ⟨Bv, Bs, Hv, g, r, k⟩ => by
    obtain ⟨x, r', rfl, h1, h2⟩ := rpL_cons_inv r
    exact ⟨x, r', rfl, Bv, Bs, Hv, g, h1, fun σ' g' => ⟨Bv, Bs, Hv, g', h2, k⟩⟩
theorem xg_tup {tgs : List Expr} {m : Nat} (hc : X.calm = true) (h : XGs X ρ tgs ds ρ') (hl : ds.length = n) (hn : (assignEach tgs X.env).length = n := by rfl) (hst : (assignEach tgs X.env).findIdx? (·.1) = none := by rfl) : XG X ρ (.Tuple tgs m p) (.tup ds) ρ' :=
  PG.imp (pg_tup hc h hn hst) fun v σ H Q ⟨Bv, Bs, Hv, g, r, k⟩ => by
    obtain ⟨q, xs, rfl, h1, h2⟩ := rp_tup r
    exact ⟨q, xs, rfl, Evl.ex_t g.vx.vh h1, by rw [rpL_len h2, hl], Bv, Bs, Hv, g, h2, k⟩
theorem xs_asg (h : XE X ρ e d) (hg : XG X ρ tg d ρ') (hs : swapsWithSole [tg] e pos.line X.env = pure false := by rfl) (hw : swappedStores [tg] e X.env = pure none := by rfl) (h1 : (assignEach [tg] X.env).map (·.2) = [assign tg X.env] := by rfl) : XS X W ρ (.Assign [tg] e pos) (.nx ρ') :=
  PS.imp (ps_asg h hg hs hw h1) fun D σ H ⟨Bv, Bs, Hv, g, k⟩ => ⟨Bv, Bs, Hv, g, fun v H' Hv' g' _ r => ⟨Bv, Bs, Hv', g', r, fun σ' g'' => k σ' H' Hv' g''⟩⟩
theorem xs_asgX {C : Addr} {ns : List Str} {g : TG} (h : XX X W ρ e C ns ds) (hg : PG X tg g) (hs : swapsWithSole [tg] e pos.line X.env = pure false := by rfl) (hw : swappedStores [tg] e X.env = pure none := by rfl) (h1 : (assignEach [tg] X.env).map (·.2) = [assign tg X.env] := by rfl) : XS X W ρ (.Assign [tg] e pos) (.exc C ns ds ρ) :=
  PS.imp (ps_asg h hg hs hw h1) fun D σ H ⟨Bv, Bs, Hv, g, k⟩ => ⟨Bv, Bs, Hv, g, fun od H' Hv' g' x => k od σ H' Hv' g' x⟩

/-! ### while -/
inductive WhD (X : Cx) (W : WX) (c : Expr) (body : List Stmt) : Nat → List E → Out → Prop where
  | done {ρ : List E} (n : Nat) : XT X ρ c false → WhD X W c body n ρ (.nx ρ)
  | next {ρ ρ1 : List E} {o o1 : Out} {n : Nat} : XT X ρ c true → XB X W ρ body o1 → (o1 = .nx ρ1 ∨ o1 = .ct ρ1) → WhD X W c body n ρ1 o → WhD X W c body (n + 1) ρ o
  | brk {ρ ρ1 : List E} (n : Nat) : XT X ρ c true → XB X W ρ body (.bk ρ1) → WhD X W c body n ρ (.nx ρ1)
  | out {ρ : List E} {o : Out} (n : Nat) : XT X ρ c true → XB X W ρ body o → Stop o → (∀ ρ, o ≠ .bk ρ) → (∀ ρ, o ≠ .ct ρ) → WhD X W c body n ρ o
  | wk {ρ ρ1 : List E} {o : Out} {n : Nat} : WkL ρ ρ1 → WhD X W c body n ρ1 o → WhD X W c body n ρ o
theorem Fin.loop {K : PySem.W.Frag} {Bv Bs : Hp} {D : Ends} {N M : L2.St → Hp → Prop} {bk : L2.St → Hp → Prop} (h : Fin K W Bv Bs D o) (s : Stop o) (h1 : ∀ ρ, o ≠ .bk ρ) (h2 : ∀ ρ, o ≠ .ct ρ) : Fin K W Bv Bs { D with nx := N, ct := M, bk := bk } o := by
  cases o with
  | nx ρ => exact s.elim
  | bk ρ => exact (h1 ρ rfl).elim
  | ct ρ => exact (h2 ρ rfl).elim
  | _ => exact h
theorem ps_any (st : List Stmt) : PSs X st (fun D σ H => ∃ t : TS, PSs X st t ∧ t D σ H) := ⟨fun pins s σ H D I ⟨t, h, w⟩ => h.run pins s σ H D I w⟩
theorem pg_any (c : Expr) : PG X c (fun v σ H Q => ∃ t : TG, PG X c t ∧ t v σ H Q) := ⟨fun pins s σ H v u Q I r ⟨t, h, w⟩ => h.run pins s σ H v u Q I r w⟩
/-! ### for -/
/-- what is walked: its items as data -/
structure ItD (K : PySem.W.Frag) (Hv0 : Hp) (J : It) (ds : List D) : Prop where
  w : ∃ G Y, Walk J ds.length G Y ∧ (∀ H, Ex Hv0 H → G H) ∧ ∀ i H x H' Hv, Y i H x H' → Ex Hv0 Hv → Ex Hv H → i < ds.length → ∃ Hv' d, ds[i]? = some d ∧ Vx Hv H Hv' H' ∧ Rp K Hv' d x
def tI (K : PySem.W.Frag) (ρ : List E) (ds : List D) : TI := fun σ H R => ∃ Bv Bs Hv, Sg K Bv Bs Hv H ρ σ ∧ ∀ J H' Hv', Sg K Bv Bs Hv' H' ρ σ → Vx Hv H Hv' H' → ItD K Hv' J ds → R J H'
abbrev XI (X : Cx) (ρ : List E) (tg it : Expr) (ds : List D) : Prop := PI X tg it (tI X.K ρ ds)
theorem PI.imp {tg it : Expr} {t t' : TI} (h : PI X tg it t) (i : ∀ σ H R, t' σ H R → t σ H R) : PI X tg it t' := ⟨fun pins s σ H R I w => h.run pins s σ H R I (i σ H R w)⟩
inductive FoD (X : Cx) (W : WX) (tg : Expr) (body : List Stmt) : List D → List E → Out → Prop where
  | nil {ρ : List E} : FoD X W tg body [] ρ (.nx ρ)
  | next {ρ ρ1 ρ2 : List E} {o o1 : Out} {d : D} {ds : List D} : XG X ρ tg d ρ1 → XB X W ρ1 body o1 → (o1 = .nx ρ2 ∨ o1 = .ct ρ2) → FoD X W tg body ds ρ2 o → FoD X W tg body (d :: ds) ρ o
  | brk {ρ ρ1 ρ2 : List E} {d : D} {ds : List D} : XG X ρ tg d ρ1 → XB X W ρ1 body (.bk ρ2) → FoD X W tg body (d :: ds) ρ (.nx ρ2)
  | out {ρ ρ1 : List E} {o : Out} {d : D} {ds : List D} : XG X ρ tg d ρ1 → XB X W ρ1 body o → Stop o → (∀ ρ, o ≠ .bk ρ) → (∀ ρ, o ≠ .ct ρ) → FoD X W tg body (d :: ds) ρ o
  | wk {ρ ρ1 : List E} {o : Out} {ds : List D} : WkL ρ ρ1 → FoD X W tg body ds ρ1 o → FoD X W tg body ds ρ o
theorem FoD.end_ {Bv Bs : Hp} {D : Ends} {σ : L2.St} {H Hv : Hp} (h : FoD X W tg body ds ρ o) (e : ds = []) (g : Sg X.K Bv Bs Hv H ρ σ) (k : Fin X.K W Bv Bs D o) : D.nx σ H := by
  induction h with
  | nil => exact k _ _ _ g
  | wk w _ ih => exact ih e (g.wk w) k
  | next => cases e
  | brk => cases e
  | out => cases e
/-- the view of a later place as the start -/
structure Rb (Bv Bs Hv : Hp) : Prop where
  vv : Ex Bv Hv
  fr : ∀ a o, Hv a = some o → Bv a = some o ∨ Bs a = none
theorem Rb.of {K : PySem.W.Frag} {Bv Bs Hv H : Hp} {σ : L2.St} (g : Sg K Bv Bs Hv H ρ σ) : Rb Bv Bs Hv := ⟨g.vx.vv, g.vx.fr⟩
theorem Vx.unbase {Bv Bs Hv1 Hv H : Hp} (r : Rb Bv Bs Hv1) (x : Vx Hv1 Bs Hv H) : Vx Bv Bs Hv H := ⟨r.vv.trans x.vv, x.hh, x.vh, fun a o e => by
  rcases x.fr a o e with h | h
  · exact r.fr a o h
  · exact .inr h⟩
theorem Sg.unbase {K : PySem.W.Frag} {Bv Bs Hv1 Hv H : Hp} {σ : L2.St} (r : Rb Bv Bs Hv1) (g : Sg K Hv1 Bs Hv H ρ σ) : Sg K Bv Bs Hv H ρ σ := ⟨g.vx.unbase r, g.len, g.at_, g.sep⟩
theorem Sg.rebase {K : PySem.W.Frag} {Bv Bs Hv1 Hv H : Hp} {σ : L2.St} (r : Rb Bv Bs Hv1) (e : Ex Hv1 Hv) (g : Sg K Bv Bs Hv H ρ σ) : Sg K Hv1 Bs Hv H ρ σ := ⟨⟨e, g.vx.hh, g.vx.vh, fun a o q => by
  rcases g.vx.fr a o q with h | h
  · exact .inl (r.vv a o h)
  · exact .inr h⟩, g.len, g.at_, g.sep⟩
theorem Fin.rebase {K : PySem.W.Frag} {Bv Bs Hv1 : Hp} {D : Ends} (r : Rb Bv Bs Hv1) (h : Fin K W Bv Bs D o) : Fin K W Hv1 Bs D o := by
  cases o with
  | nx ρ => exact fun σ H Hv g => h σ H Hv (g.unbase r)
  | bk ρ => exact fun σ H Hv g => h σ H Hv (g.unbase r)
  | ct ρ => exact fun σ H Hv g => h σ H Hv (g.unbase r)
  | ret d => exact fun v H Hv x => h v H Hv (x.unbase r)
  | retO l => exact fun p xs H Hv x => h p xs H Hv (x.unbase r)
  | retP a b => exact fun p x y H Hv v => h p x y H Hv (v.unbase r)
  | exc C ns ds ρ => exact fun od σ H Hv g => h od σ H Hv (g.unbase r)
theorem fo_turn {Bv Bs : Hp} {D : Ends} {σ : L2.St} {H Hv : Hp} {v : V} {m : List PL.D} (f : FoD X W tg body m ρ o) (hm : m = d :: ds) (g : Sg X.K Bv Bs Hv H ρ σ) (r : Rp X.K Hv d v) (k : Fin X.K W Bv Bs D o) {N : L2.St → Hp → Prop}
    (hN : ∀ ρ σ H Hv, Sg X.K Bv Bs Hv H ρ σ → FoD X W tg body ds ρ o → N σ H) :
    ∃ t : TG, PG X tg t ∧ t v σ H fun σ2 H2 => ∃ u : TS, PSs X body u ∧ u { D with nx := N, ct := N, bk := D.nx } σ2 H2 := by
  induction f with
  | nil => cases hm
  | wk w _ ih => exact ih hm (g.wk w) k hN
  | next hg hb ho hn _ =>
    cases hm
    refine ⟨_, hg, Bv, Bs, Hv, g, r, fun σ2 g2 => ⟨_, hb, Bv, Bs, Hv, g2, ?_⟩⟩
    rcases ho with rfl | rfl
    · exact fun σ3 H3 Hv3 g3 => hN _ σ3 H3 Hv3 g3 hn
    · exact fun σ3 H3 Hv3 g3 => hN _ σ3 H3 Hv3 g3 hn
  | brk hg hb =>
    cases hm
    exact ⟨_, hg, Bv, Bs, Hv, g, r, fun σ2 g2 => ⟨_, hb, Bv, Bs, Hv, g2, k⟩⟩
  | out hg hb hs h1 h2 =>
    cases hm
    exact ⟨_, hg, Bv, Bs, Hv, g, r, fun σ2 g2 => ⟨_, hb, Bv, Bs, Hv, g2, k.loop hs h1 h2⟩⟩
theorem xs_for {it : Expr} (hp : PassesOwn (model X.prog X.w) X.A X.env X.xe) (hc : X.calm = true) (hi : XI X ρ tg it ds) (h : FoD X W tg body ds ρ o) (hs : ∀ x, foldedSetIterable it X.env x = pure x := by intro _; rfl) : XS X W ρ (.For tg it body [] pos) o :=
  PS.imp (ps_for hp hc hi (pg_any tg) (ps_any body) hs) fun D σ H ⟨Bv, Bs, Hv, g, k⟩ => ⟨Bv, Bs, Hv, g, fun J H1 Hv1 g1 e1 hJ => by
    obtain ⟨G, Y, w, hG, hY⟩ := hJ.w
    have rb : Rb Bv Bs Hv1 := Rb.of g1
    have k1 := k.rebase rb
    refine for_it w (g := fun v σ H Q => ∃ t : TG, PG X tg t ∧ t v σ H Q) (tb := fun D σ H => ∃ t : TS, PSs X body t ∧ t D σ H) (fun i σ H => ∃ Hv ρ, Sg X.K Hv1 Bs Hv H ρ σ ∧ FoD X W tg body (ds.drop i) ρ o) ⟨Hv1, ρ, g1.rebase rb (Ex.refl _), h⟩ (fun i σ H _ ⟨Hv, ρ, g, _⟩ => hG H (g.vx.vv.trans g.vx.vh)) (fun i x σ H H' hi ⟨Hv, ρ, g, f⟩ y => ?_) (fun σ H ⟨Hv, ρ, g, f⟩ => f.end_ (List.drop_eq_nil_of_le (Nat.le_refl _)) g k1)
    obtain ⟨Hv', d, hd, vx, r⟩ := hY i H x H' Hv y g.vx.vv g.vx.vh hi
    have hdr : ds.drop i = d :: ds.drop (i + 1) := by
      obtain ⟨hlt, q⟩ := List.getElem?_eq_some_iff.mp hd
      rw [List.drop_eq_getElem_cons hlt, q]
    exact fo_turn f hdr (g.go vx) r k1 fun ρ σ H Hv g f => ⟨Hv, ρ, g, f⟩⟩
end
end PL
namespace PL
open PySem PySem.Spec L2
open Evl (Ex)

section
variable {X : Cx} {W : WX} {ρ ρ' ρ1 ρ2 : List E} {e a b c tg : Expr} {es : List Expr} {d : D} {ds l : List D} {pos p p' : Pos} {s : Str} {k n : Nat} {o o1 : Out} {B : Bool}

/-- xs.append(e), xs a list of one's own -/
theorem xs_push (i : Nat) {ap p1 : Pos} (hN : X.N[i]? = some s) (hv : Vis X.env.scope s) (hr : ρ[i]? = some (.own l)) (h : XE X ρ e d) (hl : l.length < 100000) (hd : (s == ("__debug__" : Str)) = false := by decide) (hcd : (s == ("__classdict__" : Str)) = false := by decide)
    (hbase : attributeBase (.Name s p') "append" X.env (eval (.Name s p') X.env) = eval (.Name s p') X.env := by rfl)
    (hfew : ((backTo p1 (starEach (e :: []) X.env)).all (fun x => !x.1) && (backToKw p1 (keywordEach [] X.env)).all (fun x => x.1.isSome)
      && decide ((e :: ([] : List Expr)).length + ([] : List Keyword).length + (if ([] : List Keyword).isEmpty then 0 else 1) < 30)) = true := by rfl)
    (hline : (ap.endLine == p1.line) = true := by rfl) (hs' : starEach (e :: []) X.env = (false, eval e X.env) :: starEach [] X.env := by rfl) (hplain : (backTo p1 (starEach [] X.env)).any (·.1) = false := by rfl)
    (hs : swapsWith (.Call (.Attribute (.Name s p') "append" ap) [e] [] p1) none pos.line X.env = pure false := by rfl) :
    XS X W ρ (.Expr (.Call (.Attribute (.Name s p') "append" ap) [e] [] p1) pos) (.nx (ρ.set i (.own (l ++ [d])))) :=
  xs_app i hN hv hr h hl (pe_bm PySem.F.plainAttrs_list PySem.F.slot_list_append PySem.F.type_list_append mt_append (pe_var (i := i) hN hv hd hcd) (pa_cons h pa_nil hs') hbase hfew hline hs' hplain) hs

/-! ### what is walked -/
theorem xi_list {it : Expr} (h : XE X ρ it (.lst ds)) : XI X ρ tg it ds :=
  PI.imp (pi_list h) fun σ H R ⟨Bv, Bs, Hv, g, k⟩ => ⟨Bv, Bs, Hv, g, fun v H1 Hv1 g1 e1 r1 => by
    obtain ⟨q, xs, rfl, h1, h2⟩ := rp_lst r1
    have hl := rpL_len h2
    refine ⟨q, rfl, ⟨xs, Evl.ex_l g1.vx.vh h1⟩, k _ H1 Hv1 g1 e1 ⟨fun H => SqL X.K H q xs, YAt xs, by rw [← hl]; exact walk_list, fun H e => Evl.ex_l e h1, fun i H x H' Hv y e e' hi => ?_⟩⟩
    obtain ⟨rfl, hx⟩ := y
    obtain ⟨d, hd, r⟩ := rpL_get' h2 hx
    exact ⟨Hv, d, hd, Vx.refl e', rp_mono e r⟩⟩
theorem xi_tup {it : Expr} (h : XE X ρ it (.tup ds)) : XI X ρ tg it ds :=
  PI.imp (pi_tup h) fun σ H R ⟨Bv, Bs, Hv, g, k⟩ => ⟨Bv, Bs, Hv, g, fun v H1 Hv1 g1 e1 r1 => by
    obtain ⟨q, xs, rfl, h1, h2⟩ := rp_tup r1
    have hl := rpL_len h2
    refine ⟨q, rfl, ⟨xs, Evl.ex_t g1.vx.vh h1⟩, k _ H1 Hv1 g1 e1 ⟨fun H => SqT X.K H q xs, YAt xs, by rw [← hl]; exact walk_tup, fun H e => Evl.ex_t e h1, fun i H x H' Hv y e e' hi => ?_⟩⟩
    obtain ⟨rfl, hx⟩ := y
    obtain ⟨d, hd, r⟩ := rpL_get' h2 hx
    exact ⟨Hv, d, hd, Vx.refl e', rp_mono e r⟩⟩
/-- the ints lo, lo + 1, .. -/
def rgD (lo : Int) (n : Nat) : List D := (List.range n).map fun k => D.int (lo + (k : Nat))
theorem rgD_len {lo : Int} {n : Nat} : (rgD lo n).length = n := by
  unfold rgD
  rw [List.length_map, List.length_range]
theorem rgD_get {lo : Int} {n i : Nat} (h : i < n) : (rgD lo n)[i]? = some (D.int (lo + (i : Nat))) := by
  unfold rgD
  rw [List.getElem?_map, List.getElem?_range h]
  rfl
theorem it_range {K : PySem.W.Frag} {Hv : Hp} {lo : Int} {n : Nat} : ItD K Hv (Itr lo n) (rgD lo n) :=
  ⟨fun _ => True, YFn fun i => .int (lo + i), by rw [rgD_len]; exact walk_range, fun _ _ => trivial, fun i H x H' Hv y e e' hi => by
    obtain ⟨rfl, rfl⟩ := y
    rw [rgD_len] at hi
    exact ⟨Hv, _, rgD_get hi, Vx.refl e', rp_v'⟩⟩
theorem xi_range1 {j : Int} (hg : Gl X "range") (hm : X.mg "range" = none) (ha : XE X ρ a (.int j)) (hj : -(2 ^ 62) ≤ j ∧ j < 2 ^ 62) (he : starEach [a] X.env = [(false, eval a X.env)] := by rfl) : XI X ρ tg (.Call (.Name "range" p) [a] [] pos) (rgD 0 j.toNat) :=
  PI.imp (pi_range1 hg hm (xa_cons ha xa_nil he) he) fun σ H R ⟨Bv, Bs, Hv, g, k⟩ => ⟨Bv, Bs, Hv, g, fun vs H1 Hv1 g1 e1 r1 => by
    obtain ⟨x, r, rfl, h1, h2⟩ := rpL_cons_inv r1
    rw [rpL_nil_inv h2, rp_v h1]
    exact ⟨j, rfl, hj.1, hj.2, k _ H1 Hv1 g1 e1 it_range⟩⟩
/-- the signs of a text, each a text -/
def sgD (z : Str) : List D := z.cps.toList.map fun c => D.str ⟨#[c]⟩
theorem xi_str {it : Expr} {z : Str} (h : XE X ρ it (.str z)) : XI X ρ tg it (sgD z) :=
  PI.imp (pi_str h) fun σ H R ⟨Bv, Bs, Hv, g, k⟩ => ⟨Bv, Bs, Hv, g, fun v H1 Hv1 g1 e1 r1 => by
    refine ⟨z, rp_v r1, k _ H1 Hv1 g1 e1 ⟨fun _ => True, fun i H v H' => H' = H ∧ ∃ c, z.cps[i]? = some c ∧ v = .str ⟨#[c]⟩, ?_, fun H e => trivial, fun i H x H' Hv y e e' hi => ?_⟩⟩
    · rw [show (sgD z).length = z.cps.size by unfold sgD; rw [List.length_map, Array.length_toList]]
      exact walk_str
    · obtain ⟨rfl, c, hc, rfl⟩ := y
      refine ⟨Hv, .str ⟨#[c]⟩, ?_, Vx.refl e', rp_v'⟩
      unfold sgD
      rw [List.getElem?_map, Array.getElem?_toList, hc]
      rfl⟩
/-- pairs made on the way -/
theorem pair_new {K : PySem.W.Frag} {Hv H : Hp} {T : Addr} {x y : V} {d1 d2 : D} (e : Ex Hv H) (hT : H T = none) (r1 : Rp K Hv d1 x) (r2 : Rp K Hv d2 y) : ∃ Hv', Vx Hv H Hv' (upd H T (.tup [x, y])) ∧ Rp K Hv' (.tup [d1, d2]) (.ref T) := by
  have n1 : Hv T = none := Evl.fresh_back e hT
  refine ⟨upd Hv T (.tup [x, y]), ⟨Ex.new n1, Ex.new hT, fun b u q => ?_, fun b u q => ?_⟩, ?_⟩
  · by_cases z : b = T
    · subst z
      rw [upd_same] at q ⊢
      exact q
    · rw [upd_ne z] at q ⊢
      exact e b u q
  · by_cases z : b = T
    · subst z
      exact .inr hT
    · rw [upd_ne z] at q
      exact .inl q
  · unfold Rp
    exact ⟨T, _, rfl, .inl (.inl upd_same), rpL_cons (rp_mono (Ex.new n1) r1) (rpL_cons (rp_mono (Ex.new n1) r2) rpL_nil)⟩
def enL : Nat → List D → List D
  | _, [] => []
  | i, d :: ds => D.tup [.int (i : Nat), d] :: enL (i + 1) ds
theorem enL_len : ∀ (i : Nat) (ds : List D), (enL i ds).length = ds.length
  | _, [] => rfl
  | i, d :: ds => by
    unfold enL
    rw [List.length_cons, List.length_cons, enL_len]
theorem enL_get : ∀ (j i : Nat) (ds : List D) (d : D), ds[i]? = some d → (enL j ds)[i]? = some (.tup [.int ((j + i : Nat)), d])
  | j, 0, d' :: ds, d, h => by
    simp at h
    subst h
    rfl
  | j, i + 1, d' :: ds, d, h => by
    have := enL_get (j + 1) i ds d (by simpa using h)
    unfold enL
    rw [List.getElem?_cons_succ, this]
    rw [show j + 1 + i = j + (i + 1) by omega]
  | j, i, [], d, h => by simp at h
theorem xi_enum {elts : List Expr} {kk : Nat} {tpos : Pos} (hg : Gl X "enumerate") (hm : X.mg "enumerate" = none) (ha : XE X ρ e (.lst ds)) (hs : starEach [e] X.env = [(false, eval e X.env)] := by rfl) : XI X ρ (.Tuple elts kk tpos) (.Call (.Name "enumerate" p) [e] [] pos) (enL 0 ds) :=
  PI.imp (pi_enum hg hm (xa_cons ha xa_nil hs) hs) fun σ H R ⟨Bv, Bs, Hv, g, k⟩ => ⟨Bv, Bs, Hv, g, fun vs H1 Hv1 g1 e1 r1 => by
    obtain ⟨x, r, rfl, h1, h2⟩ := rpL_cons_inv r1
    rw [rpL_nil_inv h2]
    obtain ⟨q, xs, rfl, h3, h4⟩ := rp_lst h1
    have hl := rpL_len h4
    refine ⟨q, xs, rfl, Evl.ex_l g1.vx.vh h3, k _ H1 Hv1 g1 e1 ⟨fun H => SqL X.K H q xs, _, by rw [enL_len, ← hl]; exact walk_enum, fun H e => Evl.ex_l e h3, fun i H x H' Hv y e e' hi => ?_⟩⟩
    obtain ⟨T, x, z, rfl, hT, rfl, hx, hz⟩ := y
    cases hx
    obtain ⟨d, hd, r⟩ := rpL_get' h4 hz
    obtain ⟨Hv', vx, rr⟩ := pair_new (K := X.K) e' hT (d1 := .int (i : Nat)) rp_v' (rp_mono e r)
    refine ⟨Hv', _, ?_, vx, rr⟩
    rw [enL_get 0 i ds d hd, Nat.zero_add]⟩
/-- lo, lo + c, .. -/
def rcD (lo c : Int) (n : Nat) : List D := (List.range n).map fun k => D.int (lo + (k : Nat) * c)
/-! ### list comprehensions -/
def wipeE (ρ : List E) : List Nat → List E
  | [] => ρ
  | v :: vs => (wipeE ρ vs).set v .no
theorem Sg.no {K : PySem.W.Frag} {Bv Bs Hv H : Hp} {σ : L2.St} (g : Sg K Bv Bs Hv H ρ σ) (i : Nat) : Sg K Bv Bs Hv H (ρ.set i .no) (σ.set i none) := by
  refine ⟨g.vx, by rw [List.length_set, List.length_set, g.len], fun j e hj => ?_, fun j k l l' q h1 h2 h3 h4 => ?_⟩
  · by_cases hij : i = j
    · subst hij
      have hl : i < ρ.length := by
        have := (List.getElem?_eq_some_iff.mp hj).1
        rwa [List.length_set] at this
      rw [List.getElem?_set_self hl] at hj
      cases hj
      exact ⟨none, List.getElem?_set_self (by rw [g.len]; exact hl), trivial⟩
    · rw [List.getElem?_set_ne hij] at hj
      rw [List.getElem?_set_ne hij]
      exact g.at_ j e hj
  · have key : ∀ {j : Nat} {l : List D}, (ρ.set i .no)[j]? = some (.own l) → i ≠ j := fun {j l} h z => by
      subst z
      have hl : i < ρ.length := by
        have := (List.getElem?_eq_some_iff.mp h).1
        rwa [List.length_set] at this
      rw [List.getElem?_set_self hl] at h
      cases h
    have n1 := key h1
    have n2 := key h2
    rw [List.getElem?_set_ne n1] at h1 h3
    rw [List.getElem?_set_ne n2] at h2 h4
    exact g.sep j k l l' q h1 h2 h3 h4
theorem Sg.wipe {K : PySem.W.Frag} {Bv Bs Hv H : Hp} {σ : L2.St} (g : Sg K Bv Bs Hv H ρ σ) : ∀ vs : List Nat, Sg K Bv Bs Hv H (wipeE ρ vs) (L2.wipe σ vs)
  | [] => g
  | v :: vs => (g.wipe vs).no v
theorem wipe_set {σ : L2.St} {i : Nat} {x : Option V} : ∀ {vs : List Nat}, i ∈ vs → L2.wipe (σ.set i x) vs = L2.wipe σ vs
  | v :: vs, h => by
    unfold L2.wipe
    by_cases hv : i ∈ vs
    · rw [wipe_set hv]
    · have e : i = v := by
        rcases List.mem_cons.mp h with h | h
        · exact h
        · exact absurd h hv
      subst e
      clear h
      have go : ∀ (us : List Nat), i ∉ us → L2.wipe (σ.set i x) us = (L2.wipe σ us).set i x := fun us => by
        induction us with
        | nil => intro _; rfl
        | cons u us ih =>
          intro hn
          have h1 : i ≠ u := fun z => hn (z ▸ List.mem_cons_self)
          have h2 : i ∉ us := fun z => hn (List.mem_cons_of_mem _ z)
          unfold L2.wipe
          rw [ih h2, List.set_comm _ _ h1]
      rw [go vs hv, List.set_set]
theorem wipe_wipe {σ : L2.St} : ∀ {vs us : List Nat}, (∀ v ∈ us, v ∈ vs) → L2.wipe (L2.wipe σ us) vs = L2.wipe σ vs
  | vs, [], _ => rfl
  | vs, u :: us, h => by
    show L2.wipe ((L2.wipe σ us).set u none) vs = L2.wipe σ vs
    rw [wipe_set (h u List.mem_cons_self), wipe_wipe fun v hv => h v (List.mem_cons_of_mem _ hv)]
/-- a target within a comprehension: own slots alone change -/
def tGw (K : PySem.W.Frag) (vs : List Nat) (ρ : List E) (d : D) (ρ' : List E) : TG := fun v σ H Q => ∃ Bv Bs Hv, Sg K Bv Bs Hv H ρ σ ∧ Rp K Hv d v ∧ ∀ σ', Sg K Bv Bs Hv H ρ' σ' → L2.wipe σ' vs = L2.wipe σ vs → Q σ' H
def tGws (K : PySem.W.Frag) (vs : List Nat) (ρ : List E) (ds : List D) (ρ' : List E) : TGs := fun us σ H Q => ∃ Bv Bs Hv, Sg K Bv Bs Hv H ρ σ ∧ RpL K Hv ds us ∧ ∀ σ', Sg K Bv Bs Hv H ρ' σ' → L2.wipe σ' vs = L2.wipe σ vs → Q σ' H
abbrev XGw (X : Cx) (vs : List Nat) (ρ : List E) (tg : Expr) (d : D) (ρ' : List E) : Prop := PG X tg (tGw X.K vs ρ d ρ')
abbrev XGws (X : Cx) (vs : List Nat) (ρ : List E) (tgs : List Expr) (ds : List D) (ρ' : List E) : Prop := PGs X tgs (tGws X.K vs ρ ds ρ')
theorem xgw_name {vs : List Nat} (i : Nat) (hN : X.N.Nodup) (hi : X.N[i]? = some s) (hx : Loc X.env.scope s) (hf : X.fn s = true ∨ X.env.scope.names.lookup s = some .local) (hv : i ∈ vs := by decide) : XGw X vs ρ (.Name s p) d (ρ.set i (.val d)) :=
  PG.imp (pg_name (i := i) hN hi hx hf) fun v σ H Q ⟨Bv, Bs, Hv, g, r, k⟩ => k _ (g.set r) (wipe_set hv)
theorem xgws_nil {vs : List Nat} : XGws X vs ρ [] [] ρ := PGs.imp pgs_nil fun v σ H Q ⟨Bv, Bs, Hv, g, r, k⟩ => ⟨rpL_nil_inv r, k _ g rfl⟩
theorem xgws_cons {vs : List Nat} {tgs : List Expr} (h : XGw X vs ρ tg d ρ1) (t : XGws X vs ρ1 tgs ds ρ2) (hs : (assignEach (tg :: tgs) X.env).map (·.2) = assign tg X.env :: (assignEach tgs X.env).map (·.2) := by rfl) : XGws X vs ρ (tg :: tgs) (d :: ds) ρ2 :=
  PGs.imp (pgs_cons h t hs) fun v σ H Q ⟨Bv, Bs, Hv, g, r, k⟩ => by
    obtain ⟨x, r', rfl, h1, h2⟩ := rpL_cons_inv r
    exact ⟨x, r', rfl, Bv, Bs, Hv, g, h1, fun σ' g' e => ⟨Bv, Bs, Hv, g', h2, fun σ2 g2 e2 => k σ2 g2 (e2.trans e)⟩⟩
theorem xgw_tup {vs : List Nat} {tgs : List Expr} {m : Nat} (hc : X.calm = true) (h : XGws X vs ρ tgs ds ρ') (hl : ds.length = n) (hn : (assignEach tgs X.env).length = n := by rfl) (hst : (assignEach tgs X.env).findIdx? (·.1) = none := by rfl) : XGw X vs ρ (.Tuple tgs m p) (.tup ds) ρ' :=
  PG.imp (pg_tup hc h hn hst) fun v σ H Q ⟨Bv, Bs, Hv, g, r, k⟩ => by
    obtain ⟨q, xs, rfl, h1, h2⟩ := rp_tup r
    exact ⟨q, xs, rfl, Evl.ex_t g.vx.vh h1, by rw [rpL_len h2, hl], Bv, Bs, Hv, g, h2, k⟩
/-- a clause's tests -/
abbrev XTs (X : Cx) (ρ : List E) (ifs : List Expr) (b : Bool) : Prop := PTs X ifs (tBl X.K ρ b)
theorem PTs.imp {ifs : List Expr} {t t' : TT} (h : PTs X ifs t) (i : ∀ σ H Q, t' σ H Q → t σ H Q) : PTs X ifs t' := ⟨fun pins s σ H Q I w => h.run pins s σ H Q I (i σ H Q w)⟩
theorem xts_nil : XTs X ρ [] true := PTs.imp pts_nil fun σ H Q ⟨Bv, Bs, Hv, g, k⟩ => k H Hv g (Vx.refl g.vx.vh)
theorem xts_one (h : XT X ρ c B) : XTs X ρ [c] B := pts_one h
/-- the blocks of a comprehension -/
def Blk (X : Cx) (scope : Scope) (P : Cx → Prop) : Prop := ∀ (s : Shared) (H : Hp) (C : Addr) (cl : List (Str × Addr)) (fp : List Addr), P (X.blk s H scope (compEnvC scope cl C X.env) fp)
inductive LcD (X : Cx) (scope : Scope) (vs : List Nat) (tg : Expr) (ifs : List Expr) (elt : Expr) (ρ : List E) : List D → List D → Prop where
  | nil : LcD X scope vs tg ifs elt ρ [] []
  | keep {d r : D} {ρ1 : List E} {ds rs : List D} : Blk X scope (fun Y => XGw Y vs ρ tg d ρ1) → Blk X scope (fun Y => XTs Y ρ1 ifs true) → Blk X scope (fun Y => XE Y ρ1 elt r) → LcD X scope vs tg ifs elt ρ ds rs → LcD X scope vs tg ifs elt ρ (d :: ds) (r :: rs)
  | skip {d : D} {ρ1 : List E} {ds rs : List D} : Blk X scope (fun Y => XGw Y vs ρ tg d ρ1) → Blk X scope (fun Y => XTs Y ρ1 ifs false) → LcD X scope vs tg ifs elt ρ ds rs → LcD X scope vs tg ifs elt ρ (d :: ds) rs
abbrev gB (X : Cx) (scope : Scope) (tg : Expr) : TG := fun v σ H Q => ∃ t : TG, Blk X scope (fun Y => PG Y tg t) ∧ t v σ H Q
abbrev tB2 (X : Cx) (scope : Scope) (ifs : List Expr) : TT := fun σ H Q => ∃ t : TT, Blk X scope (fun Y => PTs Y ifs t) ∧ t σ H Q
abbrev eB (X : Cx) (scope : Scope) (elt : Expr) : TE := fun σ H Q => ∃ t : TE, Blk X scope (fun Y => PE Y elt t) ∧ t σ H Q
theorem gB_ok {scope : Scope} : ∀ (s : Shared) (H : Hp) (C : Addr) (cl : List (Str × Addr)) (fp : List Addr), PG (X.blk s H scope (compEnvC scope cl C X.env) fp) tg (gB X scope tg) := fun s H C cl fp => ⟨fun pins s' σ H' v u Q I r ⟨t, h, w⟩ => (h s H C cl fp).run pins s' σ H' v u Q I r w⟩
theorem tB_ok {scope : Scope} {ifs : List Expr} : ∀ (s : Shared) (H : Hp) (C : Addr) (cl : List (Str × Addr)) (fp : List Addr), PTs (X.blk s H scope (compEnvC scope cl C X.env) fp) ifs (tB2 X scope ifs) := fun s H C cl fp => ⟨fun pins s' σ H' Q I ⟨t, h, w⟩ => (h s H C cl fp).run pins s' σ H' Q I w⟩
theorem eB_ok {scope : Scope} {elt : Expr} : ∀ (s : Shared) (H : Hp) (C : Addr) (cl : List (Str × Addr)) (fp : List Addr), PE (X.blk s H scope (compEnvC scope cl C X.env) fp) elt (eB X scope elt) := fun s H C cl fp => ⟨fun pins s' σ H' Q I ⟨t, h, w⟩ => (h s H C cl fp).run pins s' σ H' Q I w⟩
theorem LcD.len {scope : Scope} {vs : List Nat} {ifs : List Expr} {elt : Expr} {ds rs : List D} (h : LcD X scope vs tg ifs elt ρ ds rs) : rs.length ≤ ds.length := by
  induction h with
  | nil => exact Nat.le_refl _
  | keep _ _ _ _ ih =>
    rw [List.length_cons, List.length_cons]
    omega
  | skip _ _ _ ih =>
    rw [List.length_cons]
    omega
theorem LcD.end_ {scope : Scope} {vs : List Nat} {ifs : List Expr} {elt : Expr} {ds rs : List D} (h : LcD X scope vs tg ifs elt ρ ds rs) (e : ds = []) : rs = [] := by
  cases h with
  | nil => rfl
  | keep => cases e
  | skip => cases e
theorem lc_reads {wi : TI} {scope : Scope} {vs : List Nat} {ifs : List Expr} {elt : Expr} {rs : List D} (h : LcD X scope vs tg ifs elt (wipeE ρ vs) ds rs) (hl : ds.length ≤ 100000) (hwi : ∀ σ H R, tI X.K ρ ds σ H R → wi σ H R) :
    ∀ σ H Q, tO X.K ρ rs σ H Q → tLc wi (gB X scope tg) (tB2 X scope ifs) (eB X scope elt) vs σ H Q := by
  intro σ H Q ⟨Bv, Bs, Hv, g, k⟩
  refine hwi σ H _ ⟨Bv, Bs, Hv, g, fun J H1 Hv1 g1 e1 hJ Dl hD => ?_⟩
  obtain ⟨G, Y, w, hG, hY⟩ := hJ.w
  have nD : Hv1 Dl = none := Evl.fresh_back g1.vx.vh hD
  have nB : Bs Dl = none := Evl.fresh_back g1.vx.hh hD
  refine lc_it w (g := gB X scope tg) (tt := tB2 X scope ifs) (te := eB X scope elt)
    (fun i H => ∃ Hv acc vacc tl, Vx Hv1 H1 Hv H ∧ Hv Dl = none ∧ H Dl = some (.lst vacc) ∧ RpL X.K Hv acc vacc ∧ LcD X scope vs tg ifs elt (wipeE ρ vs) (ds.drop i) tl ∧ acc ++ tl = rs ∧ acc.length ≤ i)
    ⟨Hv1, [], [], rs, Vx.newH g1.vx.vh hD, nD, upd_same, rpL_nil, h, rfl, Nat.zero_le _⟩
    (fun i H _ ⟨Hv, acc, vacc, tl, x, _⟩ => hG H (x.vv.trans x.vh)) (fun i x H H' hi ⟨Hv, acc, vacc, tl, hx, z1, z2, z3, z4, z5, z6⟩ y => ?_) (fun H ⟨Hv, acc, vacc, tl, hx, z1, z2, z3, z4, z5, z6⟩ => ?_)
  · obtain ⟨Hv', d, hd, vx, r⟩ := hY i H x H' Hv y hx.vv hx.vh hi
    have hdr : ds.drop i = d :: ds.drop (i + 1) := by
      obtain ⟨hlt, q⟩ := List.getElem?_eq_some_iff.mp hd
      rw [List.drop_eq_getElem_cons hlt, q]
    have nf : ∀ {Hv2 H2 : Hp}, Vx Hv H Hv2 H2 → Hv2 Dl = none := fun {Hv2 H2} q => by
      cases z : Hv2 Dl with
      | none => rfl
      | some o =>
        rcases q.fr Dl o z with u | u
        · rw [z1] at u; cases u
        · rw [z2] at u; cases u
    have x' := hx.trans vx
    have g' := g1.go x'
    have gw := g'.wipe vs
    have ww : L2.wipe (L2.wipe σ vs) vs = L2.wipe σ vs := wipe_wipe fun v hv => hv
    have hsz : acc.length < 100000 := by
      have := z6
      omega
    rw [hdr] at z4
    cases z4 with
    | @keep _ r' ρ1 _ rs' hg ht he hn =>
      refine ⟨tGw X.K vs (wipeE ρ vs) d ρ1, hg, Bv, Bs, Hv', gw, r, fun σ2 g2 ew => ⟨ew.trans ww, tBl X.K ρ1 true, ht, Bv, Bs, Hv', g2, fun H3 Hv3 g3 x3 => iteT ⟨tD X.K ρ1 r', he, Bv, Bs, Hv3, g3, fun v H4 Hv4 g4 x4 r4 => ?_⟩⟩⟩
      have xa := (vx.trans x3).trans x4
      refine ⟨vacc, xa.hh _ _ z2, Evl.sz_lt (by rw [rpL_len z3]; exact hsz), Hv4, acc ++ [r'], vacc ++ [v], rs', ?_, nf xa, upd_same, rpL_app (rpL_mono xa.vv z3) (rpL_cons r4 rpL_nil), hn, by rw [List.append_assoc]; exact z5, by rw [List.length_append]; show acc.length + 1 ≤ i + 1; omega⟩
      have xb := hx.trans xa
      exact ⟨xb.vv, Ex.mut xb.hh hD, Ex.mut xb.vh (nf xa), xb.fr⟩
    | @skip _ ρ1 _ _ hg ht hn =>
      refine ⟨tGw X.K vs (wipeE ρ vs) d ρ1, hg, Bv, Bs, Hv', gw, r, fun σ2 g2 ew => ⟨ew.trans ww, tBl X.K ρ1 false, ht, Bv, Bs, Hv', g2, fun H3 Hv3 g3 x3 => iteF ?_⟩⟩
      have xa := vx.trans x3
      exact ⟨Hv3, acc, vacc, tl, hx.trans xa, nf xa, xa.hh _ _ z2, rpL_mono xa.vv z3, hn, z5, by omega⟩
  · have e : tl = [] := z4.end_ (List.drop_eq_nil_of_le (Nat.le_refl _))
    subst e
    rw [List.append_nil] at z5
    subst z5
    exact k Dl vacc H Hv (g1.go hx) (e1.trans hx) nB z1 z2 z3 (g1.notOwn_new hD) (Evl.fresh_back e1.hh hD)
theorem xo_lc {scope : Scope} {own : List (Str × Nat)} {ifs : List Expr} {elt it : Expr} {rs : List D} (hc : X.calm = true) (hN : X.N.Nodup) (ok : BlkOk X.N X.env.scope scope own) (hi : XI X ρ tg it ds) (hl : ds.length ≤ 100000)
    (h : LcD X scope (own.map (·.2)) tg ifs elt (wipeE ρ (own.map (·.2))) ds rs) (hs : ∀ x, foldedSetIterable it X.env x = pure x := by intro _; rfl) : XO X ρ (.ListComp elt [⟨tg, it, ifs, 0⟩] scope pos) rs :=
  PE.imp (pe_lc hc hN hi ok gB_ok tB_ok eB_ok hs) (lc_reads h hl fun _ _ _ w => w)
theorem xs_setLc {W : WX} (i : Nat) {scope : Scope} {own : List (Str × Nat)} {ifs : List Expr} {elt it : Expr} {rs : List D} {spos : Pos} (hc : X.calm = true) (hN : X.N.Nodup) (hy : X.N[i]? = some s) (hyl : X.env.scope.names.lookup s = some .local) (ok : BlkOk X.N X.env.scope scope own)
    (hsw : swapsWith (.ListComp elt [⟨tg, it, ifs, 0⟩] scope pos) (some (.Name s p')) spos.line X.env = pure true) (hi : XI X ρ tg it ds) (hl : ds.length ≤ 100000)
    (h : LcD X scope (own.map (·.2)) tg ifs elt (wipeE ρ (own.map (·.2))) ds rs) (hs : ∀ x, foldedSetIterable it X.env x = pure x := by intro _; rfl) : XS X W ρ (.Assign [.Name s p'] (.ListComp elt [⟨tg, it, ifs, 0⟩] scope pos) spos) (.nx (ρ.set i (.own rs))) :=
  PS.imp (ps_setLc hc hN hy hyl hsw hi ok gB_ok tB_ok eB_ok hs) fun D σ H ⟨Bv, Bs, Hv, g, k⟩ => by
    refine lc_reads h hl (fun _ _ _ w => w) σ H _ ⟨Bv, Bs, Hv, g, fun p xs H' Hv' g' x h1 h2 h3 r h5 _ => ?_⟩
    exact k _ H' Hv' (g'.setOwn h1 h2 h3 r h5)

/-! ### a def keeps its promise -/
def startE (N : List Str) (ds : List D) : List E := ds.map E.val ++ List.replicate (N.length - ds.length) .no
/-- what a body's outcome is worth -/
inductive Leads : Out → Ro → Prop where
  | nx (ρ : List E) : Leads (.nx ρ) (.val .non)
  | ret (d : D) : Leads (.ret d) (.val d)
  | fr (l : List D) : Leads (.retO l) (.fr l)
  | frv (l : List D) : Leads (.retO l) (.val (.lst l))
  | exc (C : Addr) (ns : List Str) (ds : List D) (ρ : List E) : Leads (.exc C ns ds ρ) (.exc C ns ds)
  | frP (a b : E) : Leads (.retP a b) (.frP a b)
theorem sg_start {K : PySem.W.Frag} {Hv H : Hp} {N : List Str} {vs : List V} (e : Ex Hv H) (r : RpL K Hv ds vs) : Sg K Hv H Hv H (startE N ds) (L2.start N vs) := by
  have hl := rpL_len r
  refine ⟨Vx.refl e, by unfold startE L2.start; rw [List.length_append, List.length_append, List.length_map, List.length_map, List.length_replicate, List.length_replicate, hl], fun i q hq => ?_, fun i j l l' q h1 => ?_⟩
  · unfold startE at hq
    unfold L2.start
    by_cases hi : i < ds.length
    · rw [List.getElem?_append_left (by rw [List.length_map]; exact hi), List.getElem?_map] at hq
      rw [List.getElem?_append_left (by rw [List.length_map, hl]; exact hi), List.getElem?_map]
      cases hd : ds[i]? with
      | none =>
        rw [hd] at hq
        cases hq
      | some d =>
        rw [hd] at hq
        cases hq
        obtain ⟨v, h1, h2⟩ := rpL_get r hd
        rw [h1]
        exact ⟨some v, rfl, v, rfl, h2⟩
    · rw [List.getElem?_append_right (by rw [List.length_map]; omega), List.length_map] at hq
      rw [List.getElem?_append_right (by rw [List.length_map, hl]; omega), List.length_map, hl]
      rw [List.getElem?_replicate] at hq ⊢
      split at hq
      · rename_i hlt
        rw [if_pos hlt]
        cases hq
        exact ⟨none, rfl, trivial⟩
      · cases hq
  · exfalso
    unfold startE at h1
    by_cases hi : i < ds.length
    · rw [List.getElem?_append_left (by rw [List.length_map]; exact hi), List.getElem?_map] at h1
      cases hd : ds[i]? with
      | none =>
        rw [hd] at h1
        cases h1
      | some d =>
        rw [hd] at h1
        cases h1
    · rw [List.getElem?_append_right (by rw [List.length_map]; omega), List.length_map, List.getElem?_replicate] at h1
      split at h1 <;> cases h1
theorem fn_ok0 {P : Program} {w : World} {K : PySem.W.Frag} {mg : Str → Option Value} {base : Heap} {x qual : Str} {st : Stmt} {f : Addr} {fd : FuncData} {N ps : List Str} {k n : Nat} {φ : List D → Ro} (F : Fun K x qual st f fd) (S : FnScope N ps (defScope st)) (hn : ps.length = n)
    (body : ∀ (X : Cx) (W : WX) (ds : List D), (∃ cdv A outer s H E, X = cxOf (L2N.CX P w) P w K mg base N qual (defScope st) f cdv A outer s H E) → Bd X W k → ds.length = n → φ ds ≠ .bad → ∃ o, XB X W (startE N ds) (defBody st) o ∧ Leads o (φ ds)) : FnOk P w K mg base (L2N.CX P w) (k + 1) f fd ps (spD K n φ) := by
  refine okN F S (fun vs H Q E ⟨Hv, ds, _, r, hl, _⟩ => by rw [rpL_len r, hl, hn]) (fun cdv A outer s H vs Q E hr ⟨Hv, ds, e, r, hl, q⟩ => ?_)
  have nb : φ ds ≠ .bad := fun z => by
    rw [z] at q
    exact q
  obtain ⟨o, ho, hL⟩ := body _ (fun cls d _ H => E cls d H) ds ⟨cdv, A, outer, s, H, E, rfl⟩ ⟨S.nd, rfl, hr, passes_of rfl, L2N.takes_of rfl rfl rfl rfl, fun _ => rfl⟩ hl nb
  refine ⟨_, ho, Hv, H, Hv, sg_start e r, ?_⟩
  generalize φ ds = R at q hL
  cases hL with
  | nx ρ => exact fun σ H' Hv' g => q .non H' Hv' g.vx rp_v'
  | ret d => exact fun v H' Hv' x r => q v H' Hv' x r
  | fr l => exact fun p xs H' Hv' x h1 h2 h3 r => q p xs H' Hv' x h1 h2 h3 r
  | frv l => exact fun p xs H' Hv' x h1 h2 h3 r => q (.ref p) H' (upd Hv' p (.lst xs)) (x.freeze h2 h3 h1) (by
      unfold Rp
      exact ⟨p, xs, rfl, .inl (.inl upd_same), rpL_mono (Ex.new h2) r⟩)
  | exc C ns ds ρ => exact fun od σ H' Hv' g x => q od H' Hv' g.vx x
  | frP a b => exact fun p x y H' Hv' v h1 h2 h3 h4 => q p x y H' Hv' v h1 h2 h3 h4
end
end PL
namespace PL
open PySem PySem.Spec L2
open Evl (Ex)

/-! ### the context of a body, as the printed proofs use it -/
theorem lookup_at {nk : List (Str × NameKind)} (hn : (nk.map (·.1)).Nodup) : ∀ {j : Nat} {s : Str} {kd : NameKind}, nk[j]? = some (s, kd) → nk.lookup s = some kd := by
  induction nk with
  | nil => intro j s kd h; simp at h
  | cons y r ih =>
    intro j s kd h
    rw [List.map_cons, List.nodup_cons] at hn
    cases j with
    | zero =>
      simp at h
      subst h
      simp [List.lookup]
    | succ j =>
      have h' : r[j]? = some (s, kd) := by simpa using h
      have hm : s ∈ r.map (·.1) := List.mem_map.mpr ⟨(s, kd), List.mem_of_getElem? h', rfl⟩
      have hne : s ≠ y.1 := fun z => hn.1 (z ▸ hm)
      obtain ⟨y1, y2⟩ := y
      rw [List.lookup_cons]
      have : (s == y1) = false := by simpa using hne
      rw [this]
      exact ih hn.2 h'
def isVis : NameKind → Bool
  | .local => true
  | .cell => true
  | .free => true
  | _ => false
def isLoc : NameKind → Bool
  | .local => true
  | .cell => true
  | _ => false
structure Bx (X : Cx) (P : Program) (w : World) (K : PySem.W.Frag) (mg : Str → Option Value) (base : Heap) (k : Nat) (N : List Str) (nk : List (Str × NameKind)) : Prop where
  hP : X.prog = P
  hw : X.w = w
  hK : X.K = K
  hm : X.mg = mg
  hb : X.base = base
  room : Room k X.A
  calm : X.calm = true
  hN : X.N = N
  hs : ∀ (j : Nat) (s : Str) (kd : NameKind), nk[j]? = some (s, kd) → ∃ kd', X.env.scope.names.lookup s = some kd' ∧ (kd' = kd ∨ (kd = .free ∧ kd' = .cell))
  nd : X.N.Nodup
structure Bs (X : Cx) (W : WX) : Prop where
  po : PassesOwn (model X.prog X.w) X.A X.env X.xe
  tk : L2N.Takes X W
  fn : ∀ x, X.fn x = true
  kd : X.env.scope.kind = .function
  st : X.stack = X.env :: X.outer
  fr : X.env.frame = some X.env.locals
section
variable {X : Cx} {P : Program} {w : World} {K : PySem.W.Frag} {mg : Str → Option Value} {base : Heap} {k k' n : Nat} {N : List Str} {nk : List (Str × NameKind)} {W : WX}
variable {ρ ρ' ρ1 ρ2 : List E} {e a b c tg : Expr} {es : List Expr} {d : D} {ds l : List D} {pos p p' : Pos} {s : Str} {o o1 : Out} {kd : NameKind} {φ : List D → Ro}

theorem Bx.vis (B : Bx X P w K mg base k N nk) {j : Nat} (hj : nk[j]? = some (s, kd)) (h : isVis kd = true) : Vis X.env.scope s := by
  obtain ⟨kd', h1, rfl | ⟨rfl, rfl⟩⟩ := B.hs j s kd hj
  · cases kd' with
    | «local» => exact .inl h1
    | cell => exact .inr (.inl h1)
    | free => exact .inr (.inr h1)
    | _ => cases h
  · exact .inr (.inl h1)
theorem Bx.loc (B : Bx X P w K mg base k N nk) {j : Nat} (hj : nk[j]? = some (s, kd)) (h : isLoc kd = true) : Loc X.env.scope s := by
  obtain ⟨kd', h1, rfl | ⟨rfl, rfl⟩⟩ := B.hs j s kd hj
  · cases kd' with
    | «local» => exact .inl h1
    | cell => exact .inr h1
    | _ => cases h
  · cases h
theorem Bx.lookup_loc (B : Bx X P w K mg base k N nk) {j : Nat} (hj : nk[j]? = some (s, .local)) : X.env.kindOf s = some .local := by
  obtain ⟨kd', h1, rfl | ⟨z, _⟩⟩ := B.hs j s _ hj
  · exact h1
  · cases z
theorem Bx.gl (B : Bx X P w K mg base k N nk) {j : Nat} (hj : nk[j]? = some (s, .globalImplicit)) : Gl X s := by
  obtain ⟨kd', h1, rfl | ⟨z, _⟩⟩ := B.hs j s _ hj
  · exact h1
  · cases z
theorem Bx.at_ (B : Bx X P w K mg base k N nk) {i : Nat} (h : N[i]? = some s) : X.N[i]? = some s := by
  rw [B.hN]
  exact h
theorem Bx.none (B : Bx X P w K mg base k N nk) (h : mg s = none) : X.mg s = none := by
  rw [B.hm]
  exact h
theorem Bx.fnc (B : Bx X P w K mg base k N nk) (h : FnC P w K mg base s k' n φ) : FnC X.prog X.w X.K X.mg X.base s k' n φ := by
  rw [B.hP, B.hw, B.hK, B.hm, B.hb]
  exact h
theorem lookup_key {f : Str × NameKind → Str × NameKind} (hf : ∀ p, (f p).1 = p.1) : ∀ {l : List (Str × NameKind)} {s : Str} {kd : NameKind}, l.lookup s = some kd → (l.map f).lookup s = some (f (s, kd)).2
  | [], _, _, h => by cases h
  | (a, b) :: r, s, kd, h => by
    rw [List.lookup_cons] at h
    rw [List.map_cons]
    have e : f (a, b) = ((f (a, b)).1, (f (a, b)).2) := rfl
    rw [e, hf, List.lookup_cons]
    cases q : s == a with
    | true =>
      rw [q] at h
      have : s = a := by simpa using q
      subst this
      cases h
      rfl
    | false =>
      rw [q] at h
      exact lookup_key hf h
theorem Bx.blk (B : Bx X P w K mg base k N nk) {scope : Scope} {nkc : List (Str × NameKind)} (h1 : scope.names = nkc) (h2 : (nkc.map (·.1)).Nodup) (s : Shared) (H : Hp) (C : Addr) (cl : List (Str × Addr)) (fp : List Addr) :
    Bx (X.blk s H scope (compEnvC scope cl C X.env) fp) P w K mg base k N nkc :=
  ⟨B.hP, B.hw, B.hK, B.hm, B.hb, B.room, B.calm, B.hN, fun j s kd hj => by
    have h3 := lookup_at h2 hj
    rw [← h1] at h3
    have h4 := lookup_key (f := fun (n, k) => if (k == NameKind.free && X.env.scope.kind == .function && X.env.kindOf n == some .cell) then (n, NameKind.cell) else (n, k)) (fun p => by
      obtain ⟨n, k⟩ := p
      show (if _ then (n, NameKind.cell) else (n, k)).1 = n
      split <;> rfl) h3
    by_cases hc : (kd == NameKind.free && X.env.scope.kind == .function && X.env.kindOf s == some .cell) = true
    · refine ⟨.cell, h4.trans (congrArg (fun p : Str × NameKind => some p.2) (if_pos hc)), .inr ⟨?_, rfl⟩⟩
      simp only [Bool.and_eq_true] at hc
      have := hc.1.1
      cases kd <;> first | rfl | cases this
    · exact ⟨kd, h4.trans (congrArg (fun p : Str × NameKind => some p.2) (if_neg hc)), .inl rfl⟩, B.nd⟩

theorem x_var (B : Bx X P w K mg base k N nk) (i j : Nat) (hr : ρ[i]? = some (.val d) := by rfl) (hi : N[i]? = some s := by rfl) (hj : nk[j]? = some (s, kd) := by rfl) (hv : isVis kd = true := by rfl) (hd : (s == ("__debug__" : Str)) = false := by decide +kernel) (hcd : (s == ("__classdict__" : Str)) = false := by decide +kernel) : XE X ρ (.Name s pos) d :=
  xe_name i (B.at_ hi) (B.vis hj hv) hr hd hcd
theorem x_own (B : Bx X P w K mg base k N nk) (i j : Nat) (hr : ρ[i]? = some (.own l) := by rfl) (hi : N[i]? = some s := by rfl) (hj : nk[j]? = some (s, kd) := by rfl) (hv : isVis kd = true := by rfl) (hd : (s == ("__debug__" : Str)) = false := by decide +kernel) (hcd : (s == ("__classdict__" : Str)) = false := by decide +kernel) : XW X ρ (.Name s pos) (.lst l) :=
  xw_own i (B.at_ hi) (B.vis hj hv) hr hd hcd
theorem x_glob (B : Bx X P w K mg base k N nk) (j : Nat) {u : Value} {v : V} (hm : mg s = some u) (r : RelV v u) (hr : ∀ H, Rp K H d v) (hj : nk[j]? = some (s, .globalImplicit) := by rfl) (hd : (s == ("__debug__" : Str)) = false := by decide +kernel) : XE X ρ (.Name s pos) d :=
  xe_globD (B.gl hj) (by rw [B.hm]; exact hm) r (fun H => by rw [B.hK]; exact hr H) hd
/-- a global that the module's top holds -/
def GlD (K : PySem.W.Frag) (mg : Str → Option Value) (s : Str) (d : D) : Prop := ∃ u v, mg s = some u ∧ RelV v u ∧ ∀ H, Rp K H d v
theorem x_gd (B : Bx X P w K mg base k N nk) (j : Nat) (h : GlD K mg s d) (hj : nk[j]? = some (s, .globalImplicit) := by rfl) (hd : (s == ("__debug__" : Str)) = false := by decide +kernel) : XE X ρ (.Name s pos) d := by
  obtain ⟨u, v, h1, h2, h3⟩ := h
  exact x_glob B j h1 h2 h3 hj hd
theorem x_call (B : Bx X P w K mg base k N nk) (h : FnC P w K mg base s k' n φ) (j : Nat) (ha : XA X ρ (e :: es) ds) (hφ : φ ds = .val d) (hk : k' ≤ k := by decide) (hn : ds.length = n := by rfl) (hj : nk[j]? = some (s, .globalImplicit) := by rfl) (hdb : (s == ("__debug__" : Str)) = false := by decide +kernel)
    (he : starEach (e :: es) X.env = (false, eval e X.env) :: starEach es X.env := by rfl) (hpl : (backTo pos (starEach es X.env)).any (·.1) = false := by rfl) : XE X ρ (.Call (.Name s p) (e :: es) [] pos) d :=
  xe_call (B.fnc h) (B.room.mono hk) (B.gl hj) ha hn hφ hdb he hpl
theorem x_callO (B : Bx X P w K mg base k N nk) (h : FnC P w K mg base s k' n φ) (j : Nat) (ha : XA X ρ (e :: es) ds) (hφ : φ ds = .fr l) (hk : k' ≤ k := by decide) (hn : ds.length = n := by rfl) (hj : nk[j]? = some (s, .globalImplicit) := by rfl) (hdb : (s == ("__debug__" : Str)) = false := by decide +kernel)
    (he : starEach (e :: es) X.env = (false, eval e X.env) :: starEach es X.env := by rfl) (hpl : (backTo pos (starEach es X.env)).any (·.1) = false := by rfl) : XO X ρ (.Call (.Name s p) (e :: es) [] pos) l :=
  xo_call (B.fnc h) (B.room.mono hk) (B.gl hj) ha hn hφ hdb he hpl
theorem x_callX {C : Addr} {ns : List Str} {xs : List D} (B : Bx X P w K mg base k N nk) (S : Bs X W) (h : FnC P w K mg base s k' n φ) (j : Nat) (ha : XA X ρ (e :: es) ds) (hφ : φ ds = .exc C ns xs) (hk : k' ≤ k := by decide) (hn : ds.length = n := by rfl) (hj : nk[j]? = some (s, .globalImplicit) := by rfl) (hdb : (s == ("__debug__" : Str)) = false := by decide +kernel)
    (he : starEach (e :: es) X.env = (false, eval e X.env) :: starEach es X.env := by rfl) (hpl : (backTo pos (starEach es X.env)).any (·.1) = false := by rfl) : XX X W ρ (.Call (.Name s p) (e :: es) [] pos) C ns xs :=
  xx_call (B.fnc h) (B.room.mono hk) S.tk (B.gl hj) ha hn hφ hdb he hpl

/-! ### operators, wide too -/
inductive Bin : Operator → V → V → V → Prop where
  | addI (i j : Int) : Bin .Add (.int i) (.int j) (.int (i + j))
  | subI (i j : Int) : Bin .Sub (.int i) (.int j) (.int (i - j))
  | mulI (i j : Int) : CMul i j → Bin .Mult (.int i) (.int j) (.int (i * j))
  | mulW (i j : Int) : CMulW i j → Bin .Mult (.int i) (.int j) (.int (i * j))
  | divI (i j : Int) : CDiv i j → Bin .FloorDiv (.int i) (.int j) (.int (i / j))
  | divW (i j : Int) : 0 < j → j.natAbs.log2 < 9000 → Bin .FloorDiv (.int i) (.int j) (.int (i / j))
  | modI (i j : Int) : 0 < j → Bin .Mod (.int i) (.int j) (.int (i % j))
  | powI (i j : Int) : CPow i j → Bin .Pow (.int i) (.int j) (.int (i ^ j.toNat))
  | shlI (i j : Int) : CPow i j → Bin .LShift (.int i) (.int j) (.int (i * 2 ^ j.toNat))
  | shrI (i j : Int) : 0 ≤ j → Bin .RShift (.int i) (.int j) (.int (i / 2 ^ j.toNat))
  | andI (i j : Int) : Bin .BitAnd (.int i) (.int j) (.int (Builtin.bitAnd i j))
  | orI (i j : Int) : Bin .BitOr (.int i) (.int j) (.int (Builtin.bitOr i j))
  | xorI (i j : Int) : Bin .BitXor (.int i) (.int j) (.int (Builtin.bitXor i j))
  | catS (i j : Str) : i.length + j.length ≤ sizeLine → Bin .Add (.str i) (.str j) (.str (i ++ j))
theorem x_bin {op : Operator} {u v z : V} (ha : XE X ρ a (.v u)) (hb : XE X ρ b (.v v)) (h : Bin op u v z) : XE X ρ (.BinOp a op b pos) (.v z) := by
  cases h with
  | addI i j => exact xe_add ha hb
  | subI i j => exact xe_sub ha hb
  | mulI i j h => exact xe_mul ha hb h
  | mulW i j h => exact xe_op op_mulW ha hb (r2_I h)
  | divI i j h => exact xe_fdiv ha hb h
  | divW i j h1 h2 => exact xe_op op_fdivW ha hb (r2_I (C := CDivW) ⟨h1, h2⟩)
  | modI i j h => exact xe_mod ha hb h
  | powI i j h => exact xe_pow ha hb h
  | shlI i j h => exact xe_shl ha hb h
  | shrI i j h => exact xe_shr ha hb h
  | andI i j => exact xe_and ha hb
  | orI i j => exact xe_or ha hb
  | xorI i j => exact xe_xor ha hb
  | catS i j h => exact xe_cat ha hb h
/-- an item by its place -/
inductive Ix : D → Int → D → Prop where
  | lst (l : List D) (i : Int) (d : D) : atI l i = some d → Ix (.lst l) i d
  | tup (l : List D) (i : Int) (d : D) : atI l i = some d → Ix (.tup l) i d
  | str (z : Str) (i : Int) (c : Nat) : z.length ≤ sizeLine → atI z.cps.toList i = some c → Ix (.str z) i (.str ⟨#[c]⟩)
theorem x_ix {i : Int} {q : D} (ha : XE X ρ a q) (hb : XE X ρ b (.int i)) (h : Ix q i d) (hs : PlainIx b := by exact fun _ _ => rfl) : XE X ρ (.Subscript a b pos) d := by
  cases h with
  | lst l i d h => exact xe_ixL ha hb h hs
  | tup l i d h => exact xe_ixT ha hb h hs
  | str z i c h1 h2 => exact xe_ixS ha hb h1 h2 hs
inductive Len : D → Int → Prop where
  | lst (l : List D) : Len (.lst l) l.length
  | tup (l : List D) : Len (.tup l) l.length
  | str (z : Str) : z.length ≤ sizeLine → Len (.str z) z.length
theorem x_len {i : Int} {q : D} (B : Bx X P w K mg base k N nk) (j : Nat) (hm : mg "len" = none) (ha : XE X ρ e q) (h : Len q i) (hj : nk[j]? = some (("len" : Str), NameKind.globalImplicit) := by rfl) (he : starEach (e :: []) X.env = (false, eval e X.env) :: starEach [] X.env := by rfl) (hpl : (backTo pos (starEach [] X.env)).any (·.1) = false := by rfl) : XE X ρ (.Call (.Name "len" p) [e] [] pos) (.int i) := by
  cases h with
  | lst l => exact xe_lenL (B.gl hj) (B.none hm) ha.w he hpl
  | tup l => exact xe_lenT (B.gl hj) (B.none hm) ha.w he hpl
  | str z h => exact xe_lenS (B.gl hj) (B.none hm) ha h he hpl
theorem x_min2 {i j : Int} (B : Bx X P w K mg base k N nk) (m : Nat) (hm : mg "min" = none) (ha : XE X ρ a (.int i)) (hb : XE X ρ b (.int j)) (hj : nk[m]? = some (("min" : Str), NameKind.globalImplicit) := by rfl) (he : starEach [a, b] X.env = (false, eval a X.env) :: starEach [b] X.env := by rfl) (he2 : starEach [b] X.env = (false, eval b X.env) :: starEach [] X.env := by rfl) (hpl : (backTo pos (starEach [b] X.env)).any (·.1) = false := by rfl) : XE X ρ (.Call (.Name "min" p) [a, b] [] pos) (.int (min i j)) :=
  xe_min2 B.calm (B.gl hj) (B.none hm) (xa_cons ha (xa_cons hb xa_nil he2) he) he hpl
theorem x_intB {c : Bool} (B : Bx X P w K mg base k N nk) (m : Nat) (hm : mg "int" = none) (ha : XE X ρ e (.bl c)) (hj : nk[m]? = some (("int" : Str), NameKind.globalImplicit) := by rfl) (he : starEach (e :: []) X.env = (false, eval e X.env) :: starEach [] X.env := by rfl) (hpl : (backTo pos (starEach [] X.env)).any (·.1) = false := by rfl) : XE X ρ (.Call (.Name "int" p) [e] [] pos) (.int (if c then 1 else 0)) :=
  xe_intB (B.gl hj) (B.none hm) ha he hpl
/-- a < b < c upon plain values; the third part is asked where the first comparison holds -/
theorem op_no {f : Value → Value → Sem Value} : OpR X f (fun _ _ _ _ => False) := fun _ _ _ _ _ _ _ _ _ _ _ _ h => h.elim
theorem t_chain {op op' : CmpOp} {u v y : V} {k1 k2 : Bool} (ha : XE X ρ a (.v u)) (hb : XE X ρ b (.v v)) (h1 : Cmp op u v k1) (hc : k1 = true → XE X ρ c (.v y)) (h2 : k1 = true → Cmp op' v y k2) (he : lastMarks [op, op'] [b, c] = false := by with_unfolding_all rfl) :
    XT X ρ (.Compare a [op, op'] [b, c] pos) (k1 && k2) := by
  obtain ⟨r, g1, g2, g3, g4⟩ := h1.rule (X := X)
  cases k1 with
  | true =>
    obtain ⟨r', f1, f2, f3, f4⟩ := (h2 rfl).rule (X := X)
    refine PT.imp (pt_chain g1 f1 ha hb (hc rfl) he) fun σ H Q ⟨Bv, Bs, Hv, g, k⟩ => ⟨Bv, Bs, Hv, g, fun v1 H1 Hv1 q1 e1 r1 => ⟨Bv, Bs, Hv1, q1, fun v2 H2 Hv2 q2 e2 r2 => ?_⟩⟩
    rw [rp_v r1, rp_v r2]
    refine g2 _ _ ⟨true, rfl, ?_⟩
    exact iteT ⟨Bv, Bs, Hv2, q2, fun v3 H3 Hv3 q3 e3 r3 => by
      rw [rp_v r3]
      exact f2 _ _ ⟨_, rfl, k H3 Hv3 q3 ((e1.trans e2).trans e3)⟩⟩
  | false =>
    refine PT.imp (pt_chain g1 op_no ha hb (tc := fun _ _ _ => False) ⟨fun _ _ _ _ _ _ h => h.elim⟩ he) fun σ H Q ⟨Bv, Bs, Hv, g, k⟩ => ⟨Bv, Bs, Hv, g, fun v1 H1 Hv1 q1 e1 r1 => ⟨Bv, Bs, Hv1, q1, fun v2 H2 Hv2 q2 e2 r2 => ?_⟩⟩
    rw [rp_v r1, rp_v r2]
    exact g2 _ _ ⟨false, rfl, iteF ⟨_, rfl, k H2 Hv2 q2 (e1.trans e2)⟩⟩

/-! ### isinstance -/
/-- the kind of a datum -/
inductive Kd (K : PySem.W.Frag) : D → Value → Prop where
  | non : Kd K .non (.type "NoneType")
  | bl (b : Bool) : Kd K (.bl b) (.type "bool")
  | int (i : Int) : Kd K (.int i) (.type "int")
  | str (z : Str) : Kd K (.str z) (.type "str")
  | lst (l : List D) : Kd K (.lst l) (.type "list")
  | tup (l : List D) : Kd K (.tup l) (.type "tuple")
  | dct (ks : List Key) (l : List D) : Kd K (.dct ks l) (.type "dict")
  | obj (C : Addr) (ns : List Str) (l : List D) (cl : Cls K C) (ha : PySem.W.findIn K (.ref C) "__class__" = some (some (.builtin "object.__class__")))
      (hn : PySem.W.specialIn K (.builtin "object.__class__") "__get__" = some (some (.builtin "getset_descriptor.__get__"))) (htk : PySem.W.takesIn K (.builtin "object.__class__") = some true)
      (hm : PySem.W.mroIn K C (.type "object") = some true) : Kd K (.obj C ns l) (.ref C)
theorem Kd.ty {H : Hp} {x : V} {t : Value} (h : Kd K d t) (r : Rp K H d x) : TyX K H x t := by
  cases h with
  | non => rw [rp_v r]; exact .base .non
  | bl b => rw [rp_v r]; exact .base (.bl b)
  | int i => rw [rp_v r]; exact .base (.int i)
  | str z => rw [rp_v r]; exact .base (.str z)
  | lst l =>
    obtain ⟨a, xs, rfl, h1, h2⟩ := rp_lst r
    rcases h1 with (h1 | ⟨o, h1⟩) | ⟨o, its, n, h1, h2, _⟩
    · exact .base (.lst h1)
    · exact .base (.frz h1)
    · exact .kList h1 h2
  | tup l =>
    obtain ⟨a, xs, rfl, h1, h2⟩ := rp_tup r
    rcases h1 with (h1 | ⟨o, h1⟩) | ⟨o, its, n, h1, h2, _⟩
    · exact .base (.tup h1)
    · exact .fTuple h1
    · exact .kTuple h1 h2
  | dct ks l =>
    unfold Rp at r
    obtain ⟨a, xs, rfl, h1, _, _⟩ := r
    exact .base (.dK h1)
  | obj C ns l cl ha hn htk hm =>
    unfold Rp at r
    obtain ⟨a, dx, xs, rfl, h1, _, _⟩ := r
    exact .base (.ins h1 cl ha hn htk hm)
/-- isinstance(e, C): C a class by its global name -/
theorem x_isi {u t : Value} {c : V} {g : Str} {r : Bool} {q : D} {p2 : Pos} (B : Bx X P w K mg base k N nk) (j j2 : Nat) (hm : mg "isinstance" = none) (ha : XE X ρ e q) (hc : XE X ρ (.Name g p2) (.v c)) (hcl : ClsV c u) (hk : Kd K q t) (hr : PySem.W.kitOne K t u = some r)
    (hj : nk[j]? = some (("isinstance" : Str), NameKind.globalImplicit) := by rfl)
    (he : starEach [e, .Name g p2] X.env = (false, eval e X.env) :: starEach [.Name g p2] X.env := by rfl) (he2 : starEach [.Name g p2] X.env = (false, eval (.Name g p2) X.env) :: starEach [] X.env := by rfl) (hpl : (backTo pos (starEach [.Name g p2] X.env)).any (·.1) = false := by rfl) :
    XE X ρ (.Call (.Name "isinstance" p) [e, .Name g p2] [] pos) (.bl r) :=
  PE.imp (pe_callB call_isi (B.gl hj) (B.none hm) PyProof.Rows.boot_isinstance (xa_cons ha (xa_cons hc xa_nil he2) he) (he := he) (hpl := hpl)) fun σ H Q ⟨Bv, Bs, Hv, g, kk⟩ => ⟨Bv, Bs, Hv, g, fun vs H1 Hv1 g1 e1 r1 => by
    obtain ⟨x, r2, rfl, h1, h2⟩ := rpL_cons_inv r1
    obtain ⟨y, r3, rfl, h3, h4⟩ := rpL_cons_inv h2
    rw [rpL_nil_inv h4, rp_v h3]
    refine ⟨x, c, t, u, r, rfl, hcl, ?_, ?_, kk _ H1 Hv1 g1 e1 rp_v'⟩
    · have := hk.ty (H := H1) (rp_mono g1.vx.vh (by rw [B.hK] at h1; exact h1))
      rw [B.hK]
      exact this
    · rw [B.hK]
      exact hr⟩
/-- a built-in class by its name -/
theorem x_cls {id : String} (B : Bx X P w K mg base k N nk) (j : Nat) (hm : mg s = none) (hv : bootBuiltins s = some (.type id)) (hj : nk[j]? = some (s, .globalImplicit) := by rfl) (hn : s ≠ "__name__" := by decide +kernel) (hd : (s == ("__debug__" : Str)) = false := by decide +kernel) : XE X ρ (.Name s pos) (.v (.ty id)) :=
  xe_of (pe_bltn (B.gl hj) (B.none hm) hv (show RelV (.ty id) (.type id) from rfl) hn hd) fun _ _ _ q => q
/-! ### the law's end -/
open Classical in
noncomputable def phiLaw : List D → Ro := fun ds => if ∃ ns : List Int, ns.length ≤ 63 ∧ ds = [.lst (ns.map D.int)] then .val (.bl true) else .bad
theorem phiLaw_ok {ns : List Int} (h : ns.length ≤ 63) : phiLaw [.lst (ns.map D.int)] = .val (.bl true) := by
  unfold phiLaw
  rw [if_pos ⟨ns, h, rfl⟩]
theorem phiLaw_inv {ds : List D} (h : phiLaw ds ≠ .bad) : ∃ ns : List Int, ns.length ≤ 63 ∧ ds = [.lst (ns.map D.int)] := by
  unfold phiLaw at h
  split at h
  · assumption
  · exact absurd rfl h
/-- a def of the text, as the top has laid it -/
def DefAt (K : PySem.W.Frag) (mg : Str → Option Value) (x : Str) (st : Stmt) (ps : List Str) : Prop := ∃ f fd, Fun K x x st f fd ∧ mg x = some (.ref f) ∧ Binds K fd ps []
theorem def_fn {x qual : Str} {st : Stmt} {f : Addr} {fd : FuncData} {ps : List Str} {N : List Str} {nk : List (Str × NameKind)} {k n : Nat} {φ : List D → Ro} (F : Fun K x qual st f fd) (S : FnScope N ps (defScope st)) (hnk : (defScope st).names = nk) (hnd : (nk.map (·.1)).Nodup) (hn : ps.length = n)
    (body : ∀ (X : Cx) (W : WX) (ds : List D), Bx X P w K mg base k N nk → Bs X W → ds.length = n → φ ds ≠ .bad → ∃ o, XB X W (startE N ds) (defBody st) o ∧ Leads o (φ ds)) : FnOk P w K mg base (L2N.CX P w) (k + 1) f fd ps (spD K n φ) := by
  refine fn_ok0 F S hn fun X W ds ⟨cdv, A, outer, s, H, E, e⟩ B hl nb => ?_
  subst e
  exact body _ W ds ⟨rfl, rfl, rfl, rfl, rfl, B.room, rfl, rfl, fun j s kd hj => ⟨kd, by
    show (defScope st).names.lookup s = some kd
    rw [hnk]
    exact lookup_at hnd hj, .inl rfl⟩, S.nd⟩ ⟨B.po, B.tk, B.fn, S.kind, rfl, rfl⟩ hl nb
theorem def_ok {x : Str} {st : Stmt} {ps : List Str} {N : List Str} {nk : List (Str × NameKind)} {k n : Nat} {φ : List D → Ro} (T : DefAt K mg x st ps) (S : FnScope N ps (defScope st)) (hnk : (defScope st).names = nk) (hnd : (nk.map (·.1)).Nodup) (hn : ps.length = n)
    (body : ∀ (X : Cx) (W : WX) (ds : List D), Bx X P w K mg base k N nk → Bs X W → ds.length = n → φ ds ≠ .bad → ∃ o, XB X W (startE N ds) (defBody st) o ∧ Leads o (φ ds)) : FnC P w K mg base x (k + 1) n φ := by
  obtain ⟨f, fd, F, hm, hb⟩ := T
  exact ⟨f, fd, ps, hm, def_fn F S hnk hnd hn body, F.kp, hb⟩
end
theorem def_at {K : PySem.W.Frag} {h : Heap} {mg : Str → Option Value} {x : Str} {st : Stmt} {ps : List Str} {f : Addr} {oc : Value} {od an : Option Addr} {osl : Array (Option Value)} {kV dc pm cd ct : Value} (X : K.In h) (G : h.Ns mainGlobals mg)
    (a : PySem.W.nsIn K mainGlobals x = some (some (.ref f))) (l : K.lookup f = some ⟨oc, od, .func (PySem.W.fnOf x x (defArgs st) (defBody st) (defScope st) .none kV dc pm an cd ct), osl⟩) (c : PySem.W.codeIn K cd x = true) (k : PySem.W.keepIn K (.ref f) = true)
    (hb : ∀ (kV doc pm : Value) (an : Option Addr) (cdv ct : Value) (us : List Value), us.length = ps.length → bindArgs (PySem.W.fnOf x x (defArgs st) (defBody st) (defScope st) .none kV doc pm an cdv ct) ⟨us, []⟩ = pure (ps.zip us)) : DefAt K mg x st ps := by
  have F := fun_mk (st := st) l c k
  exact ⟨f, _, F, PySem.W.mg_of X G a, F.binds hb⟩
/-- the law's walk from its contract -/
theorem law_walk {l : PySem.W.OpenLaw} {k : Nat} {q : Program} {loose : List Str} {XP : (Str → Option Value) → Heap → Prop} {YP : World → Heap → Prop} {d : DefRec} {K : Params → PySem.W.Frag} {x : Str}
    (hn : l.most = some 63) (hdf : d.params.defaults = []) (hr : Room k callerA) (hY : ∀ (w : World) (h : Heap), YP w h → (K w.params).In h)
    (F : ∀ (w : World) (mg : Str → Option Value) (fa : Addr) (h : Heap), (K w.params).In h → h.Ns mainGlobals mg → mg d.name = some (.ref fa) →
      ∃ fd : FuncData, (∀ (s : Shared) (u : Value), BindsTo s fd ⟨[u], []⟩ [(x, u)]) ∧
        ∀ base : Heap, (K w.params).In base → base.Ns mainGlobals mg → FnOk l.prog w (K w.params) mg base (L2N.CX l.prog w) k fa fd [x] (spD (K w.params) 1 phiLaw)) :
    PySem.W.WalkO q loose XP YP l.row.toRowW d [] (fun f vs => PySem.call f vs) :=
  L2.walk_of (n := 63) (k := k) (x := x) (CX := fun w => L2N.CX l.prog w) (sp := fun w => spD (K w.params) 1 phiLaw) hn (by decide) hdf hr hY F
    (fun w H a ns hl _ hS => ⟨H, [.lst (ns.map D.int)], Ex.refl _, rpL_cons (by
      unfold Rp
      exact ⟨a, ns.map V.int, rfl, hS, by
        rw [show ns.map D.int = (ns.map V.int).map D.v by rw [List.map_map]; rfl]
        exact rpL_vs'⟩) rpL_nil, rfl, by
      rw [phiLaw_ok hl]
      exact fun v H' Hv' _ r => rp_v r⟩) fun w H s e s' h => by
      obtain ⟨_, _, _, _, _, _, _, _, _, _, _, _, z⟩ := h
      exact z.elim
end PL
namespace PL
open PySem PySem.Spec L2
open Evl (Ex)
section
variable {X : Cx} {P : Program} {w : World} {K : PySem.W.Frag} {mg : Str → Option Value} {base : Heap} {k k' n : Nat} {N : List Str} {nk : List (Str × NameKind)} {W : WX}
variable {ρ ρ' ρ1 ρ2 : List E} {e a b c tg : Expr} {es : List Expr} {d : D} {ds l : List D} {pos p p' : Pos} {s : Str} {o o1 : Out} {kd : NameKind} {φ : List D → Ro} {body sts other more : List Stmt} {st : Stmt} {B : Bool}

theorem xb_end (w : WkL ρ ρ') : XB X W ρ [] (.nx ρ') := xb_nil.wkO w
/-- an if whose ways meet again -/
theorem xb_ifj {α : Type} (R : α → List E) (p : α → Prop) (h : XT X ρ c B) (h1 : B = true → ∃ y, p y ∧ XB X W ρ sts (.nx (R y))) (h2 : B = false → ∃ y, p y ∧ XB X W ρ other (.nx (R y))) (h3 : ∀ y, p y → XB X W (R y) more o) : XB X W ρ (.If c sts other pos :: more) o := by
  cases B with
  | true =>
    obtain ⟨y, hp, hy⟩ := h1 rfl
    exact xb_cons (xs_if h (fun _ => hy) nofun) (h3 y hp)
  | false =>
    obtain ⟨y, hp, hy⟩ := h2 rfl
    exact xb_cons (xs_if h nofun fun _ => hy) (h3 y hp)
/-- a test that is known -/
theorem xb_ifF (h : XT X ρ c B) (hB : B = false) (h2 : XB X W ρ more o) : XB X W ρ (.If c sts [] pos :: more) o := by
  subst hB
  exact xb_cons (xs_if h nofun fun _ => xb_nil) h2
theorem xb_ifT (h : XT X ρ c B) (hB : B = true) (h2 : XB X W ρ sts o) (q : Stop o) : XB X W ρ (.If c sts other pos :: more) o := by
  subst hB
  exact xb_stop (xs_if h (fun _ => h2) nofun) q
theorem x_set (B : Bx X P w K mg base k N nk) (S : Bs X W) (i j : Nat) (h : XE X ρ e d) (t : XB X W (ρ.set i (.val d)) more o) (hi : N[i]? = some s := by rfl) (hj : nk[j]? = some (s, kd) := by rfl) (hl : isLoc kd = true := by rfl)
    (hs : swapsWith e (some (.Name s p')) pos.line X.env = pure false := by rfl) : XB X W ρ (.Assign [.Name s p'] e pos :: more) o :=
  xb_cons (xs_set i B.nd (B.at_ hi) (B.loc hj hl) (S.fn _) h hs) t
theorem x_setO (B : Bx X P w K mg base k N nk) (S : Bs X W) (i j : Nat) (h : XO X ρ e l) (t : XB X W (ρ.set i (.own l)) more o) (hi : N[i]? = some s := by rfl) (hj : nk[j]? = some (s, kd) := by rfl) (hl : isLoc kd = true := by rfl)
    (hs : swapsWith e (some (.Name s p')) pos.line X.env = pure false := by rfl) : XB X W ρ (.Assign [.Name s p'] e pos :: more) o :=
  xb_cons (xs_setO i B.nd (B.at_ hi) (B.loc hj hl) (S.fn _) h hs) t
theorem x_tgt (B : Bx X P w K mg base k N nk) (hf : ∀ s, X.fn s = true) (i j : Nat) (hi : N[i]? = some s := by rfl) (hj : nk[j]? = some (s, kd) := by rfl) (hl : isLoc kd = true := by rfl) : XG X ρ (.Name s p) d (ρ.set i (.val d)) :=
  xg_name i B.nd (B.at_ hi) (B.loc hj hl) (.inl (hf _))
theorem x_for (B : Bx X P w K mg base k N nk) (S : Bs X W) {it : Expr} (hi : XI X ρ tg it ds) (h : FoD X W tg body ds ρ (.nx ρ1)) (t : XB X W ρ1 more o) (hs : ∀ x, foldedSetIterable it X.env x = pure x := by intro _; rfl) : XB X W ρ (.For tg it body [] pos :: more) o :=
  xb_cons (xs_for S.po B.calm hi h hs) t
theorem x_ret (h : XE X ρ e d) : XB X W ρ (.Return (some e) pos :: more) (.ret d) := xb_stop (xs_ret h) trivial
theorem x_retO (h : XO X ρ e l) : XB X W ρ (.Return (some e) pos :: more) (.retO l) := xb_stop (xs_retO h) trivial
theorem x_retOwn (B : Bx X P w K mg base k N nk) (i j : Nat) (hr : ρ[i]? = some (.own l) := by rfl) (hi : N[i]? = some s := by rfl) (hj : nk[j]? = some (s, kd) := by rfl) (hv : isVis kd = true := by rfl) (hd : (s == ("__debug__" : Str)) = false := by decide +kernel) (hcd : (s == ("__classdict__" : Str)) = false := by decide +kernel) : XB X W ρ (.Return (some (.Name s p)) pos :: more) (.retO l) :=
  xb_stop (xs_retOwn i (B.at_ hi) (B.vis hj hv) hr hd hcd) trivial
theorem x_push (B : Bx X P w K mg base k N nk) (i j : Nat) {ap p1 : Pos} (h : XE X ρ e d) (hl : l.length < 100000) (t : XB X W (ρ.set i (.own (l ++ [d]))) more o) (hr : ρ[i]? = some (.own l) := by rfl) (hi : N[i]? = some s := by rfl) (hj : nk[j]? = some (s, kd) := by rfl) (hv : isVis kd = true := by rfl) (hd : (s == ("__debug__" : Str)) = false := by decide +kernel) (hcd : (s == ("__classdict__" : Str)) = false := by decide +kernel)
    (hbase : attributeBase (.Name s p') "append" X.env (eval (.Name s p') X.env) = eval (.Name s p') X.env := by rfl)
    (hfew : ((backTo p1 (starEach (e :: []) X.env)).all (fun x => !x.1) && (backToKw p1 (keywordEach [] X.env)).all (fun x => x.1.isSome)
      && decide ((e :: ([] : List Expr)).length + ([] : List Keyword).length + (if ([] : List Keyword).isEmpty then 0 else 1) < 30)) = true := by rfl)
    (hline : (ap.endLine == p1.line) = true := by rfl) (hs' : starEach (e :: []) X.env = (false, eval e X.env) :: starEach [] X.env := by rfl) (hplain : (backTo p1 (starEach [] X.env)).any (·.1) = false := by rfl)
    (hs : swapsWith (.Call (.Attribute (.Name s p') "append" ap) [e] [] p1) none pos.line X.env = pure false := by rfl) :
    XB X W ρ (.Expr (.Call (.Attribute (.Name s p') "append" ap) [e] [] p1) pos :: more) o :=
  xb_cons (xs_push i (B.at_ hi) (B.vis hj hv) hr h hl hd hcd hbase hfew hline hs' hplain hs) t
theorem x_range1 {j : Int} (B : Bx X P w K mg base k N nk) (m : Nat) (hm : mg "range" = none) (ha : XE X ρ a (.int j)) (hj : -(2 ^ 62) ≤ j ∧ j < 2 ^ 62) (hn : nk[m]? = some (("range" : Str), NameKind.globalImplicit) := by rfl) (he : starEach [a] X.env = [(false, eval a X.env)] := by rfl) : XI X ρ tg (.Call (.Name "range" p) [a] [] pos) (rgD 0 j.toNat) :=
  xi_range1 (B.gl hn) (B.none hm) ha hj he
/-- a loop that keeps its frame -/
theorem fo_all : ∀ {ds : List D}, (∀ d ∈ ds, ∃ ρ1, XG X ρ tg d ρ1 ∧ XB X W ρ1 body (.nx ρ)) → FoD X W tg body ds ρ (.nx ρ)
  | [], _ => .nil
  | d :: ds, h => by
    obtain ⟨ρ1, h1, h2⟩ := h d List.mem_cons_self
    exact .next h1 h2 (.inl rfl) (fo_all fun d hd => h d (List.mem_cons_of_mem _ hd))
/-- a loop that folds: R says the frame at a state; p holds of the state ahead of each item -/
theorem fo_fold {β : Type} (R : β → List E) (f : β → D → β) : ∀ {ds : List D} {y : β} (p : β → List D → Prop), p y ds → (∀ y d r, p y (d :: r) → p (f y d) r ∧ ∃ ρ1, XG X (R y) tg d ρ1 ∧ XB X W ρ1 body (.nx (R (f y d)))) → FoD X W tg body ds (R y) (.nx (R (ds.foldl f y)))
  | [], _, _, _, _ => .nil
  | d :: ds, y, p, h0, h => by
    obtain ⟨h1, ρ1, h2, h3⟩ := h y d ds h0
    exact .next h2 h3 (.inl rfl) (fo_fold R f p h1 h)
theorem blk_of {scope : Scope} {nkc : List (Str × NameKind)} {Q : Cx → Prop} (h1 : scope.names = nkc) (h2 : (nkc.map (·.1)).Nodup) (B : Bx X P w K mg base k N nk) (q : ∀ Y : Cx, Bx Y P w K mg base k N nkc → Q Y) : Blk X scope Q := fun s H C cl fp => q _ (B.blk h1 h2 s H C cl fp)
theorem x_tgw {vs : List Nat} (B : Bx X P w K mg base k N nk) (i j : Nat) (hj : nk[j]? = some (s, .local) := by rfl) (hi : N[i]? = some s := by rfl) (hv : i ∈ vs := by decide) : XGw X vs ρ (.Name s p) d (ρ.set i (.val d)) :=
  xgw_name i B.nd (B.at_ hi) (B.loc hj rfl) (.inr (by
    obtain ⟨kd', h1, rfl | ⟨z, _⟩⟩ := B.hs j s _ hj
    · exact h1
    · cases z)) hv
end
/-! ### the law's def -/
theorem law_mk {P : Program} {w : World} {K : PySem.W.Frag} {h : Heap} {mg : Str → Option Value} {st : Stmt} {p : Str} {fa f : Addr} {k : Nat} {oc : Value} {od an : Option Addr} {osl : Array (Option Value)} {kV dc pm cd ct : Value} (X : K.In h) (G : h.Ns mainGlobals mg) (hfa : mg "law" = some (.ref fa))
    (a : PySem.W.nsIn K mainGlobals "law" = some (some (.ref f))) (l : K.lookup f = some ⟨oc, od, .func (PySem.W.fnOf "law" "law" (defArgs st) (defBody st) (defScope st) .none kV dc pm an cd ct), osl⟩) (c : PySem.W.codeIn K cd "law" = true) (kp : PySem.W.keepIn K (.ref f) = true)
    (hb : ∀ (kV doc pm : Value) (an : Option Addr) (cdv ct : Value) (us : List Value), us.length = ([p] : List Str).length → bindArgs (PySem.W.fnOf "law" "law" (defArgs st) (defBody st) (defScope st) .none kV doc pm an cdv ct) ⟨us, []⟩ = pure (([p] : List Str).zip us))
    (hB : ∀ (s : Shared) (v : Value), BindsTo s (PySem.W.fnOf "law" "law" (defArgs st) (defBody st) (defScope st) .none kV dc pm an cd ct) ⟨[v], []⟩ [(p, v)])
    (F : ∀ (fd : FuncData), Fun K "law" "law" st f fd → ∀ base : Heap, FnOk P w K mg base (L2N.CX P w) k f fd [p] (spD K 1 phiLaw)) :
    ∃ fd : FuncData, (∀ (s : Shared) (u : Value), BindsTo s fd ⟨[u], []⟩ [(p, u)]) ∧ ∀ base : Heap, K.In base → base.Ns mainGlobals mg → FnOk P w K mg base (L2N.CX P w) k fa fd [p] (spD K 1 phiLaw) := by
  have e := hfa.symm.trans (PySem.W.mg_of X G a)
  cases e
  exact ⟨_, hB, fun base _ _ => F _ (fun_mk (st := st) l c kp) base⟩
/-! ### cells of the script -/
theorem ix_nat {l : List D} {k : Int} {d : D} (h0 : 0 ≤ k) (h : l[k.toNat]? = some d) : atI l k = some d := by
  have e : ((k.toNat : Nat) : Int) = k := by omega
  rw [← e]
  exact atI_nat h
end PL
namespace PL
open PySem PySem.Spec L2
open Evl (Ex)
theorem boot_int : bootBuiltins "int" = some (.type "int") := PyProof.Rows.boot_int
theorem boot_bool : bootBuiltins "bool" = some (.type "bool") := PyProof.Rows.boot_bool
theorem boot_str : bootBuiltins "str" = some (.type "str") := by decide +kernel
theorem boot_list : bootBuiltins "list" = some (.type "list") := by decide +kernel
/-- isinstance of built-in kinds -/
def isB (a b : String) : Bool := a == b || (a == "bool" && b == "int")
def kinds : List String := ["NoneType", "bool", "int", "str", "list", "tuple", "dict"]
def clss : List String := ["bool", "int", "str", "list", "tuple", "dict"]
theorem kinds_ok : (kinds.all fun a => clss.all fun b => decide (kitB a b = some (isB a b))) = true := by decide +kernel
theorem kit_is {K : PySem.W.Frag} {a b : String} (ha : a ∈ kinds := by decide) (hb : b ∈ clss := by decide) : PySem.W.kitOne K (.type a) (.type b) = some (isB a b) := by
  have h := kinds_ok
  rw [List.all_eq_true] at h
  have h2 := h a ha
  rw [List.all_eq_true] at h2
  exact kit_ty (of_decide_eq_true (h2 b hb))
section
variable {X : Cx} {P : Program} {w : World} {K : PySem.W.Frag} {mg : Str → Option Value} {base : Heap} {k k' n : Nat} {N : List Str} {nk : List (Str × NameKind)} {W : WX}
variable {ρ ρ' ρ1 ρ2 : List E} {e a b c tg : Expr} {es : List Expr} {d : D} {ds l : List D} {pos p p' : Pos} {s : Str} {o o1 : Out} {kd : NameKind} {φ : List D → Ro} {body sts other more : List Stmt} {st : Stmt} {B : Bool}

theorem x_abs {i : Int} (B : Bx X P w K mg base k N nk) (m : Nat) (hm : mg "abs" = none) (ha : XE X ρ e (.int i)) (hj : nk[m]? = some (("abs" : Str), NameKind.globalImplicit) := by rfl) (he : starEach (e :: []) X.env = (false, eval e X.env) :: starEach [] X.env := by rfl) (hpl : (backTo pos (starEach [] X.env)).any (·.1) = false := by rfl) : XE X ρ (.Call (.Name "abs" p) [e] [] pos) (.int (if i < 0 then -i else i)) :=
  xe_abs (B.gl hj) (B.none hm) ha he hpl
theorem x_enum {elts : List Expr} {kk : Nat} {tpos : Pos} (B : Bx X P w K mg base k N nk) (m : Nat) (hm : mg "enumerate" = none) (ha : XE X ρ e (.lst ds)) (hj : nk[m]? = some (("enumerate" : Str), NameKind.globalImplicit) := by rfl) (hs : starEach [e] X.env = [(false, eval e X.env)] := by rfl) : XI X ρ (.Tuple elts kk tpos) (.Call (.Name "enumerate" p) [e] [] pos) (enL 0 ds) :=
  xi_enum (B.gl hj) (B.none hm) ha hs
/-! ### a comprehension's names -/
def isCF : NameKind → Bool
  | .cell => true
  | .free => true
  | _ => false
def blkB (N : List Str) (nk : List (Str × NameKind)) (scope : Scope) (own : List (Str × Nat)) : Bool :=
  (match scope.kind with | .function => true | _ => false) && (scope.names.all fun y => decide (scope.names.lookup y.1 = some y.2)) && (own.all fun p => decide (N[p.2]? = some p.1)) &&
    (scope.names.all fun y => match y.2 with
      | .free => nk.any fun z => decide (z.1 = y.1) && isCF z.2
      | .local => decide (y.1 ∈ own.map (·.1)) || decide (y.1 ∉ N)
      | .cell => decide (y.1 ∈ own.map (·.1)) || decide (y.1 ∉ N)
      | _ => true)
theorem okb {scope : Scope} {own : List (Str × Nat)} (B : Bx X P w K mg base k N nk) (h : blkB N nk scope own = true := by decide +kernel) : BlkOk X.N X.env.scope scope own := by
  unfold blkB at h
  simp only [Bool.and_eq_true, List.all_eq_true, decide_eq_true_eq] at h
  obtain ⟨⟨⟨h1, h2⟩, h3⟩, h4⟩ := h
  refine ⟨?_, h2, fun p hp => by rw [B.hN]; exact h3 p hp, fun y hy e => ?_, fun y hy e => ?_⟩
  · split at h1
    · assumption
    · cases h1
  · have q := h4 y hy
    simp only [e, List.any_eq_true, Bool.and_eq_true, decide_eq_true_eq] at q
    obtain ⟨z, hz, e1, e2⟩ := q
    obtain ⟨j, hj⟩ := List.getElem?_of_mem hz
    obtain ⟨kd', h5, rfl | ⟨h6, rfl⟩⟩ := B.hs j z.1 z.2 hj
    · rw [e1] at h5
      obtain ⟨z1, z2⟩ := z
      simp only at h5 e2
      cases z2 <;> first | (cases e2; done) | exact .inl h5 | exact .inr h5
    · rw [e1] at h5
      exact .inl h5
  · have q := h4 y hy
    rw [B.hN]
    rcases e with e | e <;> (simp only [e, Bool.or_eq_true, decide_eq_true_eq] at q; exact q)
end
/-! ### contracts by what is handed in -/
def fI (f : Int → Ro) : List D → Ro
  | [.v (.int a)] => f a
  | _ => .bad
def fLI (f : List D → Int → Ro) : List D → Ro
  | [.lst l, .v (.int a)] => f l a
  | _ => .bad
def fV (f : D → Ro) : List D → Ro
  | [d] => f d
  | _ => .bad
theorem inv_I {f : Int → Ro} {ds : List D} (h : fI f ds ≠ .bad) : ∃ a, ds = [.int a] ∧ f a ≠ .bad := by
  unfold fI at h
  split at h
  · exact ⟨_, rfl, h⟩
  · exact absurd rfl h
theorem inv_LI {f : List D → Int → Ro} {ds : List D} (h : fLI f ds ≠ .bad) : ∃ l a, ds = [.lst l, .int a] ∧ f l a ≠ .bad := by
  unfold fLI at h
  split at h
  · exact ⟨_, _, rfl, h⟩
  · exact absurd rfl h
theorem inv_V {f : D → Ro} {ds : List D} (h : fV f ds ≠ .bad) : ∃ d, ds = [d] ∧ f d ≠ .bad := by
  unfold fV at h
  split at h
  · exact ⟨_, rfl, h⟩
  · exact absurd rfl h
theorem if_ok {c : Prop} [Decidable c] {r : Ro} (h : (if c then r else .bad) ≠ .bad) : c := by
  by_cases q : c
  · exact q
  · rw [if_neg q] at h
    exact absurd rfl h
/-! ### globals of the written part -/
section
variable {K : PySem.W.Frag} {h : Heap} {mg : Str → Option Value} {s : Str}
theorem gl_int {i : Int} {t : Tok} (X : K.In h) (G : h.Ns mainGlobals mg) (a : PySem.W.nsIn K mainGlobals s = some (some (.int i t))) : GlD K mg s (.int i) := ⟨_, .int i, PySem.W.mg_of X G a, ⟨t, rfl⟩, fun _ => rp_v'⟩
theorem gl_str {z : Str} {t : Tok} (X : K.In h) (G : h.Ns mainGlobals mg) (a : PySem.W.nsIn K mainGlobals s = some (some (.str z t))) : GlD K mg s (.str z) := ⟨_, .str z, PySem.W.mg_of X G a, ⟨t, rfl⟩, fun _ => rp_v'⟩
def absL : List Value → Option (List V)
  | [] => some []
  | u :: r => match absV u, absL r with
    | some x, some xs => some (x :: xs)
    | _, _ => none
theorem rel_of_abs {u : Value} {x : V} (h : absV u = some x) : RelV x u := by
  cases u <;> simp only [absV] at h <;> first | (cases h; done) | (cases h; first | rfl | exact ⟨_, rfl⟩)
theorem vals_of_abs : ∀ {us : List Value} {xs : List V}, absL us = some xs → Vals xs us
  | [], xs, h => by
    cases h
    exact .nil
  | u :: r, xs, h => by
    unfold absL at h
    cases h1 : absV u with
    | none =>
      rw [h1] at h
      cases h
    | some x =>
      cases h2 : absL r with
      | none =>
        rw [h1, h2] at h
        cases h
      | some ys =>
        rw [h1, h2] at h
        cases h
        exact .cons (rel_of_abs h1) (vals_of_abs h2)
def tupOf (o : Obj) : Option (List V) := if o.cls == .type "tuple" then (match o.data with
  | .seq its _ => if its.size ≤ 1000 then absL its.toList else none
  | _ => none) else none
end
end PL
namespace PL
open PySem PySem.Spec L2
open Evl (Ex)
/-! ### == of data -/
mutual
def toPy : D → Option PyData
  | .v .non => some .none
  | .v (.bl b) => some (.bool b)
  | .v (.int i) => some (.int i)
  | .v (.str z) => some (.str z)
  | .v _ => none
  | .tup l => (toPyL l).map PyData.tuple
  | .lst l => (toPyL l).map PyData.list
  | .obj _ _ _ => none
  | .dct _ _ => none
  | .pin _ _ => none
def toPyL : List D → Option (List PyData)
  | [] => some []
  | d :: l => match toPy d, toPyL l with
    | some p, some ps => some (p :: ps)
    | _, _ => none
end
section
variable {K : PySem.W.Frag} {H : Hp}
mutual
theorem dp_of : ∀ {d : D} {p : PyData} {u : V}, toPy d = some p → Rp K H d u → Dp K H u p
  | .v x, p, u, h, r => by
    rw [rp_v r]
    cases x <;> simp only [toPy] at h <;> first | (cases h; done) | (cases h; constructor)
  | .tup l, p, u, h, r => by
    obtain ⟨a, xs, rfl, h1, h2⟩ := rp_tup r
    unfold toPy at h
    cases q : toPyL l with
    | none =>
      rw [q] at h
      cases h
    | some ps =>
      rw [q] at h
      cases h
      exact .tup h1 (dpL_of q h2)
  | .lst l, p, u, h, r => by
    obtain ⟨a, xs, rfl, h1, h2⟩ := rp_lst r
    unfold toPy at h
    cases q : toPyL l with
    | none =>
      rw [q] at h
      cases h
    | some ps =>
      rw [q] at h
      cases h
      exact .lst h1 (dpL_of q h2)
  | .obj _ _ _, p, u, h, r => by
    unfold toPy at h
    cases h
  | .dct _ _, p, u, h, r => by
    unfold toPy at h
    cases h
  | .pin _ _, p, u, h, r => by
    unfold toPy at h
    cases h
theorem dpL_of : ∀ {l : List D} {ps : List PyData} {xs : List V}, toPyL l = some ps → RpL K H l xs → DpAll K H xs ps
  | [], ps, xs, h, r => by
    rw [rpL_nil_inv r]
    unfold toPyL at h
    cases h
    exact .nil
  | d :: l, ps, xs, h, r => by
    obtain ⟨x, r', rfl, h1, h2⟩ := rpL_cons_inv r
    unfold toPyL at h
    cases q : toPy d with
    | none =>
      rw [q] at h
      cases h
    | some p =>
      cases q2 : toPyL l with
      | none =>
        rw [q, q2] at h
        cases h
      | some ps' =>
        rw [q, q2] at h
        cases h
        exact .cons (dp_of q h1) (dpL_of q2 h2)
end
end
theorem toPyL_ints : ∀ (ns : List Int), toPyL (ns.map D.int) = some (ns.map PyData.int)
  | [] => rfl
  | n :: ns => by
    show (match toPy (D.int n), toPyL (ns.map D.int) with | some p, some ps => some (p :: ps) | _, _ => none) = _
    rw [toPyL_ints ns]
    rfl
theorem eqvAll_ints : ∀ (ns ms : List Int), PyData.eqvAll (ns.map PyData.int) (ms.map PyData.int) = decide (ns = ms)
  | [], [] => by simp [PyData.eqvAll]
  | [], m :: ms => by simp [PyData.eqvAll]
  | n :: ns, [] => by simp [PyData.eqvAll]
  | n :: ns, m :: ms => by
    show ((n == m) && PyData.eqvAll (ns.map PyData.int) (ms.map PyData.int)) = _
    rw [eqvAll_ints ns ms]
    by_cases h1 : n = m
    · subst h1
      by_cases h2 : ns = ms
      · subst h2
        simp
      · simp [h2]
    · simp [h1]
/-- what == of two data gives -/
structure EqD (d e : D) (b : Bool) : Prop where
  ex : ∃ p q, toPy d = some p ∧ toPy e = some q ∧ SeqAt.shaped p = true ∧ SeqAt.shaped q = true ∧ PyData.eqv p q = b
section
variable {X : Cx} {P : Program} {w : World} {K : PySem.W.Frag} {mg : Str → Option Value} {base : Heap} {k k' n : Nat} {N : List Str} {nk : List (Str × NameKind)} {W : WX}
variable {ρ ρ' ρ1 ρ2 : List E} {e a b c tg : Expr} {es : List Expr} {d f : D} {ds l m : List D} {pos p p' : Pos} {s : Str} {o o1 : Out} {kd : NameKind} {φ : List D → Ro} {body sts other more : List Stmt} {st : Stmt} {Bo : Bool}
theorem t_eqD (B : Bx X P w K mg base k N nk) (ha : XW X ρ a d) (hb : XW X ρ b f) (h : EqD d f Bo) : XT X ρ (.Compare a [.Eq] [b] pos) Bo :=
  PT.imp (pt_cmpR (op_eqD B.room.units) ha hb (nomark _)) fun σ H Q ⟨Bv, Bs, Hv, g, k⟩ => ⟨Bv, Bs, Hv, g, fun v1 H1 Hv1 g1 e1 r1 => ⟨Bv, Bs, Hv1, g1, fun v2 H2 Hv2 g2 e2 r2 => by
    obtain ⟨p, q, h1, h2, h3, h4, h5⟩ := h.ex
    refine ⟨p, q, dp_of h1 (rp_mono e2.hh r1), dp_of h2 r2, h3, h4, ?_⟩
    rw [h5]
    exact ⟨_, rfl, k H2 Hv2 g2 (e1.trans e2)⟩⟩⟩
/-! ### a list, whoever holds it, its items told by the view -/
def tQ (K : PySem.W.Frag) (ρ : List E) (l : List D) : TE := fun σ H Q => ∃ Bv Bs Hv, Sg K Bv Bs Hv H ρ σ ∧ ∀ q xs H' Hv', Sg K Bv Bs Hv' H' ρ σ → Vx Hv H Hv' H' → SqL K H' q xs → RpL K Hv' l xs → Q (.ref q) H'
abbrev XQ (X : Cx) (ρ : List E) (e : Expr) (l : List D) : Prop := PE X e (tQ X.K ρ l)
theorem XE.q (h : XE X ρ e (.lst l)) : XQ X ρ e l := PE.imp h fun σ H Q ⟨Bv, Bs, Hv, g, k⟩ => ⟨Bv, Bs, Hv, g, fun v H' Hv' g' x r => by
  obtain ⟨q, xs, rfl, h1, h2⟩ := rp_lst r
  exact k q xs H' Hv' g' x (Evl.ex_l g'.vx.vh h1) h2⟩
theorem XO.q (h : XO X ρ e l) : XQ X ρ e l := PE.imp h fun σ H Q ⟨Bv, Bs, Hv, g, k⟩ => ⟨Bv, Bs, Hv, g, fun q xs H' Hv' g' x h1 h2 h3 h4 h5 h6 => k q xs H' Hv' g' x (.inl (.inl h3)) h4⟩
theorem x_ownQ (B : Bx X P w K mg base k N nk) (i j : Nat) (hr : ρ[i]? = some (.own l) := by rfl) (hi : N[i]? = some s := by rfl) (hj : nk[j]? = some (s, kd) := by rfl) (hv : isVis kd = true := by rfl) (hd : (s == ("__debug__" : Str)) = false := by decide +kernel) (hcd : (s == ("__classdict__" : Str)) = false := by decide +kernel) : XQ X ρ (.Name s pos) l :=
  PE.imp (pe_var (i := i) (B.at_ hi) (B.vis hj hv) hd hcd) fun σ H Q ⟨Bv, Bs, Hv, g, k⟩ => by
    obtain ⟨q, xs, h1, h2, h3, h4, h5⟩ := g.own hr
    exact ⟨_, h1, k q xs H Hv g (Vx.refl g.vx.vh) (.inl (.inl h4)) h5⟩
theorem x_lenQ (B : Bx X P w K mg base k N nk) (j : Nat) (hm : mg "len" = none) (ha : XQ X ρ e l) (hj : nk[j]? = some (("len" : Str), NameKind.globalImplicit) := by rfl) (he : starEach (e :: []) X.env = (false, eval e X.env) :: starEach [] X.env := by rfl) (hpl : (backTo pos (starEach [] X.env)).any (·.1) = false := by rfl) : XE X ρ (.Call (.Name "len" p) [e] [] pos) (.int l.length) :=
  PE.imp (pe_callB call_len_seq (B.gl hj) (B.none hm) PySem.boot_len (pa_cons ha pa_nil he) (he := he) (hpl := hpl)) fun σ H Q ⟨Bv, Bs, Hv, g, k⟩ => ⟨Bv, Bs, Hv, g, fun q xs H1 Hv1 g1 e1 h3 h4 => by
    refine ⟨q, xs, rfl, .inl h3, ?_⟩
    rw [rpL_len h4]
    exact k _ H1 Hv1 g1 e1 rp_v'⟩
theorem x_ixQ {i : Int} (ha : XQ X ρ a l) (hb : XE X ρ b (.int i)) (hi : atI l i = some d) (hs : PlainIx b := by exact fun _ _ => rfl) : XE X ρ (.Subscript a b pos) d :=
  PE.imp (pe_ix ix_list ha hb hs) fun σ H Q ⟨Bv, Bs, Hv, g, k⟩ => ⟨Bv, Bs, Hv, g, fun q xs H1 Hv1 g1 e1 h3 h4 => ⟨Bv, Bs, Hv1, g1, fun v2 H2 Hv2 g2 e2 r2 => by
    obtain ⟨u, h5, h6⟩ := atI_rel (rpL_mono e2.vv h4) hi
    exact ⟨q, xs, i, u, rfl, rp_v r2, Evl.ex_l e2.hh h3, h5, k u H2 Hv2 g2 (e1.trans e2) h6⟩⟩⟩
/-- list + list, whoever holds them -/
def rCatL (K : PySem.W.Frag) : R2 := fun x y H Q => ∃ l b xs zs, x = .ref l ∧ y = .ref b ∧ SqL K H l xs ∧ SqL K H b zs ∧ xs.length + zs.length ≤ sizeLine ∧ ∀ p, H p = none → Q (.ref p) (upd H p (.lst (xs ++ zs)))
theorem op_catL : OpR X (binaryOp .Add) (rCatL X.K) := by
  intro pins s σ H x y v u Q I rx ry h
  obtain ⟨l, b, xs, zs, rfl, rfl, hH, hB, hz, q⟩ := h
  cases rx
  cases ry
  obtain ⟨its, r, pl, hl⟩ := I.list hH
  obtain ⟨its2, r2, pl2, hl2⟩ := I.list hB
  obtain ⟨⟨cls, dd, data, sl⟩, ho, hc, n, hd⟩ := pl.isList
  obtain ⟨⟨cls2, dd2, data2, sl2⟩, ho2, hc2, n2, hd2⟩ := pl2.isList
  simp only at hc hd hc2 hd2
  subst hc hd hc2 hd2
  have e : its.toArray ++ its2.toArray = (its ++ its2).toArray := by simp
  have l1 := r.length
  have l2 := r2.length
  refine PySem.concat_meets ⟨_, ho, rfl⟩ ⟨_, ho2, rfl⟩ noFill_list_add seq_list_add PySem.F.slot_list_add PySem.F.entry_list_add (PySem.F.args_list_add_2 _ _) (PyProof.Rows.list_addW l b its.toArray its2.toArray n n2 dd dd2 sl sl2 (by rw [List.size_toArray, List.size_toArray]; omega)) ⟨ho, ho2, ?_⟩
  rw [e]
  exact ⟨.ref _, _, I.lnew (t' := s.toks) (r.append r2) (by rw [List.length_append]; omega), rfl, q _ I.fresh⟩
theorem x_catO (ha : XQ X ρ a l) (hb : XQ X ρ b m) (hl : l.length + m.length ≤ 100000) : XO X ρ (.BinOp a .Add b pos) (l ++ m) :=
  PE.imp (pe_op op_catL ha hb) fun σ H Q ⟨Bv, Bs, Hv, g, k⟩ => ⟨Bv, Bs, Hv, g, fun q xs H1 Hv1 g1 e1 h1 h2 => ⟨Bv, Bs, Hv1, g1, fun q2 ys H2 Hv2 g2 e2 h3 h4 => by
    refine ⟨q, q2, xs, ys, rfl, rfl, Evl.ex_l e2.hh h1, h3, Evl.sz_of (by rw [rpL_len h2, rpL_len h4]; exact hl), fun r hr => ?_⟩
    have x := e1.trans e2
    exact k r _ _ _ (g2.newH hr) (x.trans (Vx.newH g2.vx.vh hr)) (Evl.fresh_back g2.vx.hh hr) (Evl.fresh_back g2.vx.vh hr) upd_same (rpL_app (rpL_mono e2.vv h2) h4) (g2.notOwn_new hr) (Evl.fresh_back x.hh hr)⟩⟩
/-! ### slices -/
def cutD (xs : List D) (lo hi : Option Int) : List D := (xs.drop (HT.sIx xs.length 0 lo)).take (HT.sIx xs.length xs.length hi - HT.sIx xs.length 0 lo)
def tPt (K : PySem.W.Frag) (ρ : List E) (i : Option Int) : TO := fun σ H Q => ∃ Bv Bs Hv, Sg K Bv Bs Hv H ρ σ ∧ ∀ H' Hv', Sg K Bv Bs Hv' H' ρ σ → Vx Hv H Hv' H' → Q i H'
abbrev XP (X : Cx) (ρ : List E) (e : Option Expr) (i : Option Int) : Prop := PO X e (tPt X.K ρ i)
theorem PO.imp {e : Option Expr} {t t' : TO} (h : PO X e t) (i : ∀ σ H Q, t' σ H Q → t σ H Q) : PO X e t' := ⟨fun pins s σ H Q I w => h.run pins s σ H Q I (i σ H Q w)⟩
theorem xp_none : XP X ρ none none := PO.imp po_none fun σ H Q ⟨Bv, Bs, Hv, g, k⟩ => k H Hv g (Vx.refl g.vx.vh)
theorem xp_some {i : Int} (h : XE X ρ e (.int i)) : XP X ρ (some e) (some i) := PO.imp (po_some h) fun σ H Q ⟨Bv, Bs, Hv, g, k⟩ => ⟨Bv, Bs, Hv, g, fun v H' Hv' g' x r => ⟨i, rp_v r, k H' Hv' g' x⟩⟩
theorem x_sliceL {lo hi : Option Expr} {i j : Option Int} {p2 : Pos} (ha : XQ X ρ a l) (hl : XP X ρ lo i) (hh : XP X ρ hi j) : XO X ρ (.Subscript a (.Slice lo hi none p2) pos) (cutD l i j) :=
  PE.imp (pe_slice sl_list ha hl hh) fun σ H Q ⟨Bv, Bs, Hv, g, k⟩ => ⟨Bv, Bs, Hv, g, fun q xs H1 Hv1 g1 e1 h1 h2 => ⟨Bv, Bs, Hv1, g1, fun H2 Hv2 g2 e2 => ⟨Bv, Bs, Hv2, g2, fun H3 Hv3 g3 e3 => by
    refine ⟨q, xs, rfl, Evl.ex_l (e2.trans e3).hh h1, fun r hr => ?_⟩
    have x := (e1.trans e2).trans e3
    refine k r _ _ _ (g3.newH hr) (x.trans (Vx.newH g3.vx.vh hr)) (Evl.fresh_back g3.vx.hh hr) (Evl.fresh_back g3.vx.vh hr) upd_same ?_ (g3.notOwn_new hr) (Evl.fresh_back x.hh hr)
    have h2' := rpL_mono (e2.trans e3).vv h2
    have hlen := rpL_len h2'
    unfold cutV cutD
    rw [hlen]
    exact rpL_take _ (rpL_drop _ h2')⟩⟩⟩
theorem x_sliceS {z : Str} {lo hi : Option Expr} {i j : Option Int} {p2 : Pos} (ha : XE X ρ a (.str z)) (hl : XP X ρ lo i) (hh : XP X ρ hi j) (hz : z.length ≤ sizeLine) : XE X ρ (.Subscript a (.Slice lo hi none p2) pos) (.str (cutS z i j)) :=
  PE.imp (pe_slice sl_str ha hl hh) fun σ H Q ⟨Bv, Bs, Hv, g, k⟩ => ⟨Bv, Bs, Hv, g, fun v H1 Hv1 g1 e1 r1 => ⟨Bv, Bs, Hv1, g1, fun H2 Hv2 g2 e2 => ⟨Bv, Bs, Hv2, g2, fun H3 Hv3 g3 e3 =>
    ⟨z, rp_v r1, hz, k _ H3 Hv3 g3 ((e1.trans e2).trans e3) rp_v'⟩⟩⟩⟩
/-- name = [..] on one row -/
theorem x_setLc (B : Bx X P w K mg base k N nk) (S : Bs X W) (i j : Nat) {scope : Scope} {own : List (Str × Nat)} {ifs : List Expr} {elt it : Expr} {rs : List D} {spos : Pos} (ok : BlkOk X.N X.env.scope scope own) (hi : XI X ρ tg it ds) (hl : ds.length ≤ 100000)
    (h : LcD X scope (own.map (·.2)) tg ifs elt (wipeE ρ (own.map (·.2))) ds rs) (t : XB X W (ρ.set i (.own rs)) more o) (hN : N[i]? = some s := by rfl) (hj : nk[j]? = some (s, .local) := by rfl)
    (hl2 : (p'.line == pos.line) = true := by rfl) (ha : (scope.names.any fun (n, k) => n == s && (k == .local || k == .cell)) = false := by decide +kernel)
    (hs : ∀ x, foldedSetIterable it X.env x = pure x := by intro _; rfl) : XB X W ρ (.Assign [.Name s p'] (.ListComp elt [⟨tg, it, ifs, 0⟩] scope pos) spos :: more) o := by
  have hy : X.env.scope.names.lookup s = some .local := by
    obtain ⟨kd', h1, rfl | ⟨z, _⟩⟩ := B.hs j s _ hj
    · exact h1
    · cases z
  exact xb_cons (xs_setLc i B.calm B.nd (B.at_ hN) hy ok (sw_true S.kd hy hl2 ha) hi hl h hs) t
/-- targets that are tuples -/
theorem x_asg (h : XE X ρ e d) (hg : XG X ρ tg d ρ1) (t : XB X W ρ1 more o) (hs : swapsWithSole [tg] e pos.line X.env = pure false := by rfl) (hw : swappedStores [tg] e X.env = pure none := by rfl) (h1 : (assignEach [tg] X.env).map (·.2) = [assign tg X.env] := by rfl) : XB X W ρ (.Assign [tg] e pos :: more) o :=
  xb_cons (xs_asg h hg hs hw h1) t
end
/-! ### loops by what they do -/
section
variable {X : Cx} {W : WX} {c : Expr} {body : List Stmt}
end
end PL
namespace PL
open PySem PySem.Spec L2
open Evl (Ex)
theorem wkL_refl : ∀ (ρ : List E), WkL ρ ρ
  | [] => .nil
  | e :: ρ => .cons (.same e) (wkL_refl ρ)
theorem wkL_set : ∀ {ρ ρ' : List E} (v : Nat), WkL ρ ρ' → WkL ρ (ρ'.set v .no)
  | [], _, v, h => by
    cases h
    exact .nil
  | e :: ρ, _, v, h => by
    cases h with
    | cons a b => cases v with
      | zero => exact .cons (.no _) b
      | succ v => exact .cons a (wkL_set v b)
theorem wkL_wipe (ρ : List E) : ∀ (vs : List Nat), WkL ρ (wipeE ρ vs)
  | [] => wkL_refl ρ
  | v :: vs => wkL_set v (wkL_wipe ρ vs)
section
variable {X : Cx} {P : Program} {w : World} {K : PySem.W.Frag} {mg : Str → Option Value} {base : Heap} {k k' n : Nat} {N : List Str} {nk : List (Str × NameKind)} {W : WX}
variable {ρ ρ' ρ1 ρ2 : List E} {e a b c tg : Expr} {es : List Expr} {d f : D} {ds l m : List D} {pos p p' : Pos} {s : Str} {o o1 : Out} {kd : NameKind} {φ : List D → Ro} {body sts other more : List Stmt} {st : Stmt} {Bo : Bool}
/-- a for that leaves its temporaries (slots vs) untold -/
theorem x_forW (B : Bx X P w K mg base k N nk) (S : Bs X W) (vs : List Nat) {it : Expr} (hi : XI X ρ tg it ds) (h : FoD X W tg body ds (wipeE ρ vs) (.nx ρ1)) (t : XB X W ρ1 more o) (hs : ∀ x, foldedSetIterable it X.env x = pure x := by intro _; rfl) : XB X W ρ (.For tg it body [] pos :: more) o :=
  x_for B S hi (.wk (wkL_wipe ρ vs) h) t hs
/-- comprehensions over a list given by a map -/
theorem lc_of {α : Type} {scope : Scope} {vs : List Nat} {elt : Expr} {F G : α → D} : ∀ {as : List α}, (∀ x ∈ as, ∃ ρ1, Blk X scope (fun Y => XGw Y vs ρ tg (F x) ρ1) ∧ Blk X scope (fun Y => XE Y ρ1 elt (G x))) → LcD X scope vs tg [] elt ρ (as.map F) (as.map G)
  | [], _ => .nil
  | d :: as, h => by
    obtain ⟨ρ1, h1, h2⟩ := h d List.mem_cons_self
    exact .keep h1 (fun _ _ _ _ _ => xts_nil) h2 (lc_of fun x hx => h x (List.mem_cons_of_mem _ hx))
end
end PL
namespace PL
open PySem PySem.Spec L2
open Evl (Ex)
section
variable {X : Cx} {P : Program} {w : World} {K : PySem.W.Frag} {mg : Str → Option Value} {base : Heap} {k k' n : Nat} {N : List Str} {nk : List (Str × NameKind)} {W : WX}
variable {ρ ρ' ρ1 ρ2 : List E} {e a b c tg : Expr} {es : List Expr} {d f : D} {ds l m : List D} {pos p p' : Pos} {s : Str} {o o1 : Out} {kd : NameKind} {φ : List D → Ro} {body sts other more : List Stmt} {st : Stmt} {Bo : Bool}
/-- an if whose ways meet in one frame -/
theorem xb_ifm (h : XT X ρ c Bo) (h1 : Bo = true → XB X W ρ sts (.nx ρ1)) (h2 : Bo = false → XB X W ρ other (.nx ρ1)) (t : XB X W ρ1 more o) : XB X W ρ (.If c sts other pos :: more) o :=
  xb_ifj (fun _ : Unit => ρ1) (fun _ => True) h (fun q => ⟨(), trivial, h1 q⟩) (fun q => ⟨(), trivial, h2 q⟩) fun _ _ => t
/-! the same with the frame behind it told -/
theorem x_setE (B : Bx X P w K mg base k N nk) (S : Bs X W) (i j : Nat) (h : XE X ρ e d) (hρ : ρ.set i (.val d) = ρ1) (t : XB X W ρ1 more o) (hi : N[i]? = some s := by rfl) (hj : nk[j]? = some (s, kd) := by rfl) (hl : isLoc kd = true := by rfl)
    (hs : swapsWith e (some (.Name s p')) pos.line X.env = pure false := by rfl) : XB X W ρ (.Assign [.Name s p'] e pos :: more) o := by
  subst hρ
  exact x_set B S i j h t hi hj hl hs
theorem x_setOE (B : Bx X P w K mg base k N nk) (S : Bs X W) (i j : Nat) (h : XO X ρ e l) (hρ : ρ.set i (.own l) = ρ1) (t : XB X W ρ1 more o) (hi : N[i]? = some s := by rfl) (hj : nk[j]? = some (s, kd) := by rfl) (hl : isLoc kd = true := by rfl)
    (hs : swapsWith e (some (.Name s p')) pos.line X.env = pure false := by rfl) : XB X W ρ (.Assign [.Name s p'] e pos :: more) o := by
  subst hρ
  exact x_setO B S i j h t hi hj hl hs
theorem x_setLcE (B : Bx X P w K mg base k N nk) (S : Bs X W) (i j : Nat) {scope : Scope} {own : List (Str × Nat)} {ifs : List Expr} {elt it : Expr} {rs : List D} {spos : Pos} (ok : BlkOk X.N X.env.scope scope own) (hi : XI X ρ tg it ds) (hl : ds.length ≤ 100000) (hρ0 : wipeE ρ (own.map (·.2)) = ρ2)
    (h : LcD X scope (own.map (·.2)) tg ifs elt ρ2 ds rs) (hρ : ρ.set i (.own rs) = ρ1) (t : XB X W ρ1 more o) (hN : N[i]? = some s := by rfl) (hj : nk[j]? = some (s, .local) := by rfl)
    (hl2 : (p'.line == pos.line) = true := by rfl) (ha : (scope.names.any fun (n, k) => n == s && (k == .local || k == .cell)) = false := by decide +kernel)
    (hs : ∀ x, foldedSetIterable it X.env x = pure x := by intro _; rfl) : XB X W ρ (.Assign [.Name s p'] (.ListComp elt [⟨tg, it, ifs, 0⟩] scope pos) spos :: more) o := by
  subst hρ hρ0
  exact x_setLc B S i j ok hi hl h t hN hj hl2 ha hs
theorem x_puE (B : Bx X P w K mg base k N nk) (i j : Nat) {ap p1 : Pos} (hr : ρ[i]? = some (.own l)) (h : XE X ρ e d) (hl : l.length < 100000) (hρ : ρ.set i (.own (l ++ [d])) = ρ1) (t : XB X W ρ1 more o) (hi : N[i]? = some s := by rfl) (hj : nk[j]? = some (s, kd) := by rfl) (hv : isVis kd = true := by rfl) (hd : (s == ("__debug__" : Str)) = false := by decide +kernel) (hcd : (s == ("__classdict__" : Str)) = false := by decide +kernel)
    (hbase : attributeBase (.Name s p') "append" X.env (eval (.Name s p') X.env) = eval (.Name s p') X.env := by rfl)
    (hfew : ((backTo p1 (starEach (e :: []) X.env)).all (fun x => !x.1) && (backToKw p1 (keywordEach [] X.env)).all (fun x => x.1.isSome)
      && decide ((e :: ([] : List Expr)).length + ([] : List Keyword).length + (if ([] : List Keyword).isEmpty then 0 else 1) < 30)) = true := by rfl)
    (hline : (ap.endLine == p1.line) = true := by rfl) (hs' : starEach (e :: []) X.env = (false, eval e X.env) :: starEach [] X.env := by rfl) (hplain : (backTo p1 (starEach [] X.env)).any (·.1) = false := by rfl)
    (hs : swapsWith (.Call (.Attribute (.Name s p') "append" ap) [e] [] p1) none pos.line X.env = pure false := by rfl) :
    XB X W ρ (.Expr (.Call (.Attribute (.Name s p') "append" ap) [e] [] p1) pos :: more) o := by
  subst hρ
  exact x_push B i j h hl t hr hi hj hv hd hcd hbase hfew hline hs' hplain hs
theorem x_forE (B : Bx X P w K mg base k N nk) (S : Bs X W) (vs : List Nat) {it : Expr} (hi : XI X ρ tg it ds) (hρ : wipeE ρ vs = ρ2) (h : FoD X W tg body ds ρ2 (.nx ρ1)) (t : XB X W ρ1 more o) (hs : ∀ x, foldedSetIterable it X.env x = pure x := by intro _; rfl) : XB X W ρ (.For tg it body [] pos :: more) o := by
  subst hρ
  exact x_forW B S vs hi h t hs
theorem xo_lcE (B : Bx X P w K mg base k N nk) {scope : Scope} {own : List (Str × Nat)} {ifs : List Expr} {elt it : Expr} {rs : List D} (ok : BlkOk X.N X.env.scope scope own) (hi : XI X ρ tg it ds) (hl : ds.length ≤ 100000) (hρ0 : wipeE ρ (own.map (·.2)) = ρ2)
    (h : LcD X scope (own.map (·.2)) tg ifs elt ρ2 ds rs) (hs : ∀ x, foldedSetIterable it X.env x = pure x := by intro _; rfl) : XO X ρ (.ListComp elt [⟨tg, it, ifs, 0⟩] scope pos) rs := by
  subst hρ0
  exact xo_lc B.calm B.nd ok hi hl h hs
theorem xb_freezeE (i : Nat) (hi : ρ[i]? = some (.own l)) (hρ : ρ.set i (.val (.lst l)) = ρ1) (h : XB X W ρ1 sts o) : XB X W ρ sts o := by
  subst hρ
  exact xb_freeze i hi h
theorem lay_ints : ∀ (ns : List Int), PyData.canLayAll0 (ns.map PyData.int) = true ∧ PyData.depthAll (ns.map PyData.int) = 0
  | [] => ⟨rfl, rfl⟩
  | n :: ns => by
    have h := lay_ints ns
    simp only [List.map_cons, PyData.canLayAll0, PyData.canLay0, PyData.depthAll, PyData.depth, h.1, h.2]
    decide
theorem shaped_ints (ns : List Int) : SeqAt.shaped (.list (ns.map PyData.int)) = true := by
  have h := lay_ints ns
  unfold SeqAt.shaped
  simp only [PyData.canLay0, PyData.depth, h.1, h.2]
  decide
theorem toPy_ints (ns : List Int) : toPy (.lst (ns.map D.int)) = some (.list (ns.map PyData.int)) := by
  unfold toPy
  rw [toPyL_ints]
  rfl
theorem eqD_ints (ns ms : List Int) : EqD (.lst (ns.map D.int)) (.lst (ms.map D.int)) (decide (ns = ms)) :=
  ⟨⟨_, _, toPy_ints ns, toPy_ints ms, shaped_ints ns, shaped_ints ms, by
    show PyData.eqvAll (ns.map PyData.int) (ms.map PyData.int) = _
    exact eqvAll_ints ns ms⟩⟩
theorem getD_map' (ns : List Int) (i : Nat) (z : Int) : (ns.map D.int).getD i (.int z) = .int (ns.getD i z) := by
  rw [List.getD_eq_getElem?_getD, List.getD_eq_getElem?_getD, List.getElem?_map]
  cases ns[i]? <;> rfl
end
end PL
/-! ranges of any size -/
namespace PL
open PySem PySem.Spec PyProof.Rows L2
open Evl (Ex)
section
variable {X : Cx} {tg : Expr}
end
section
variable {X : Cx} {P : Program} {w : World} {K : PySem.W.Frag} {mg : Str → Option Value} {base : Heap} {k k' n : Nat} {N : List Str} {nk : List (Str × NameKind)} {W : WX}
variable {ρ ρ' ρ1 ρ2 : List E} {e a b c tg : Expr} {es : List Expr} {d f : D} {ds l m : List D} {pos p p' : Pos}
end
end PL
/-! in, list(range), reverse, a list's item stored -/
namespace PL
open PySem PySem.Spec L2
open Evl (Ex)
section
variable {X : Cx} {P : Program} {w : World} {K : PySem.W.Frag} {mg : Str → Option Value} {base : Heap} {k k' n : Nat} {N : List Str} {nk : List (Str × NameKind)} {W : WX}
variable {ρ ρ' ρ1 ρ2 : List E} {e a b c tg : Expr} {es : List Expr} {d f : D} {ds l m : List D} {pos p p' : Pos} {s : Str} {o o1 : Out} {kd : NameKind} {φ : List D → Ro} {body sts other more : List Stmt} {st : Stmt} {Bo : Bool}
/-- xs[e] = v, xs a list of one's own -/
theorem x_stE {i : Int} {q : Nat} {ei : Expr} {p1 tpos : Pos} (B : Bx X P w K mg base k N nk) (u j : Nat) (hr : ρ[u]? = some (.own l)) (h : XE X ρ e d) (hi : XE X ρ ei (.int i)) (hq : ixN l.length i = some q) (hρ : ρ.set u (.own (l.set q d)) = ρ1) (t : XB X W ρ1 more o)
    (hu : N[u]? = some s := by rfl) (hj : nk[j]? = some (s, kd) := by rfl) (hv : isVis kd = true := by rfl) (hd : (s == ("__debug__" : Str)) = false := by decide +kernel) (hcd : (s == ("__classdict__" : Str)) = false := by decide +kernel)
    (ha : ∀ v, assign (.Subscript (.Name s p1) ei tpos) X.env v = (do
      let ov ← holding [v] (eval (.Name s p1) X.env)
      let iv ← holding [v, ov] (eval ei X.env)
      standAt tpos
      holding [v, ov, iv] (setItem ov iv v)
      release [v, ov, iv] []) := by intro _; rfl)
    (hs : swapsWithSole [.Subscript (.Name s p1) ei tpos] e pos.line X.env = pure false := by rfl) (hw : swappedStores [.Subscript (.Name s p1) ei tpos] e X.env = pure none := by rfl) (h1 : (assignEach [.Subscript (.Name s p1) ei tpos] X.env).map (·.2) = [assign (.Subscript (.Name s p1) ei tpos) X.env] := by rfl) :
    XB X W ρ (.Assign [.Subscript (.Name s p1) ei tpos] e pos :: more) o := by
  subst hρ
  refine xb_cons (PS.imp (ps_asg h (pg_sub (pe_var (i := u) (B.at_ hu) (B.vis hj hv) hd hcd) hi set_list ha) hs hw h1) fun D σ H ⟨Bv, Bs, Hv, g, k⟩ => ⟨Bv, Bs, Hv, g, fun v H1 Hv1 g1 e1 r1 => ?_⟩) t
  obtain ⟨q1, xs, z1, z2, z3, z4, z5⟩ := g1.own hr
  refine ⟨.ref q1, z1, Bv, Bs, Hv1, g1, fun v2 H2 Hv2 g2 e2 r2 => ?_⟩
  obtain ⟨q2, ys, y1, y2, y3, y4, y5⟩ := g2.own hr
  rw [z1] at y1
  cases y1
  refine ⟨q1, ys, i, q, rfl, rp_v r2, y4, by rw [rpL_len y5]; exact hq, ?_⟩
  exact k _ _ Hv2 (g2.upd hr z1 (rpL_set q y5 (rp_mono e2.vv r1)))
end
end PL
/-! exceptions: raise, try, what a suite asks of the caught one -/
namespace PL
open PySem PySem.Spec L2
open Evl (Ex)
abbrev veM : List Value := [.type "ValueError", .type "Exception", .type "BaseException", .type "object"]
structure ExCls (K : PySem.W.Frag) (mg : Str → Option Value) (x : Str) (C : Addr) : Prop where
  mg_ : mg x = some (.ref C)
  kp : PySem.W.keepIn K (.ref C) = true
  sub : PySem.W.subIn K (.ref C) (.type "BaseException") = some true
  ty : PySem.W.typeIn K (.ref C) = some (.type "type")
  hd : PySem.W.hasDictIn K C = true
  ga : PySem.W.findIn K (.ref C) "__getattribute__" = some (some (.builtin "BaseException.__getattribute__"))
  gg : PySem.W.findIn K (.ref C) "__getattr__" = some none
  ca : PySem.W.findIn K (.ref C) "__class__" = some (some (.builtin "object.__class__"))
  cn : PySem.W.specialIn K (.builtin "object.__class__") "__get__" = some (some (.builtin "getset_descriptor.__get__"))
  ct : PySem.W.takesIn K (.builtin "object.__class__") = some true
  mo : PySem.W.mroIn K C (.type "object") = some true
theorem exCls_mk {K : PySem.W.Frag} {h : Heap} {mg : Str → Option Value} {x : Str} {C : Addr} (X : K.In h) (G : h.Ns mainGlobals mg) (n : PySem.W.nsIn K mainGlobals x = some (some (.ref C))) (b1 : PySem.W.keepIn K (.ref C) = true) (b2 : PySem.W.subIn K (.ref C) (.type "BaseException") = some true) (b3 : PySem.W.typeIn K (.ref C) = some (.type "type")) (b4 : PySem.W.hasDictIn K C = true)
    (b5 : PySem.W.findIn K (.ref C) "__getattribute__" = some (some (.builtin "BaseException.__getattribute__"))) (b6 : PySem.W.findIn K (.ref C) "__getattr__" = some none) (b7 : PySem.W.findIn K (.ref C) "__class__" = some (some (.builtin "object.__class__"))) (b10 : PySem.W.mroIn K C (.type "object") = some true)
    (b8 : PySem.W.specialIn K (.builtin "object.__class__") "__get__" = some (some (.builtin "getset_descriptor.__get__"))) (b9 : PySem.W.takesIn K (.builtin "object.__class__") = some true) : ExCls K mg x C :=
  ⟨PySem.W.mg_of X G n, b1, b2, b3, b4, b5, b6, b7, b8, b9, b10⟩
/-- a slot gets what is no own list -/
theorem Sg.setAt {K : PySem.W.Frag} {Bv Bs Hv H : Hp} {ρ : List E} {σ : L2.St} (g : Sg K Bv Bs Hv H ρ σ) {i : Nat} {e : E} {o : Option V} (hn : isOwn e = false) (h : At K Bs Hv H e o) : Sg K Bv Bs Hv H (ρ.set i e) (σ.set i o) := by
  refine ⟨g.vx, by rw [List.length_set, List.length_set, g.len], fun j e' hj => ?_, fun j k l l' p h1 h2 h3 h4 => ?_⟩
  · by_cases hij : i = j
    · subst hij
      have hl : i < ρ.length := by
        have := (List.getElem?_eq_some_iff.mp hj).1
        rwa [List.length_set] at this
      rw [List.getElem?_set_self hl] at hj
      cases hj
      exact ⟨o, List.getElem?_set_self (by rw [g.len]; exact hl), h⟩
    · rw [List.getElem?_set_ne hij] at hj
      rw [List.getElem?_set_ne hij]
      exact g.at_ j e' hj
  · have n1 : ∀ {j : Nat} {l : List D}, (ρ.set i e)[j]? = some (.own l) → i ≠ j := fun {j l} h1 z => by
      subst z
      have hl : i < ρ.length := by
        have := (List.getElem?_eq_some_iff.mp h1).1
        rwa [List.length_set] at this
      rw [List.getElem?_set_self hl] at h1
      cases h1
      cases hn
    have m1 := n1 h1
    have m2 := n1 h2
    rw [List.getElem?_set_ne m1] at h1 h3
    rw [List.getElem?_set_ne m2] at h2 h4
    exact g.sep j k l l' p h1 h2 h3 h4
section
variable {X : Cx} {P : Program} {w : World} {K : PySem.W.Frag} {mg : Str → Option Value} {base : Heap} {k k' n : Nat} {N : List Str} {nk : List (Str × NameKind)} {W : WX}
variable {ρ ρ' ρ1 ρ2 : List E} {e a b c tg : Expr} {es : List Expr} {d f : D} {ds l m : List D} {pos p p' : Pos} {s : Str} {o o1 : Out} {kd : NameKind} {φ : List D → Ro} {body sts other more : List Stmt} {st : Stmt} {Bo : Bool} {C F : Addr}
theorem ExCls.raises (T : ExCls K mg s C) (hK : X.K = K) : Raises X (.ref C) := raises_own (by rw [hK]; exact T.sub) (by rw [hK]; exact T.ty)
theorem x_setX {ns : List Str} {xs : List D} (B : Bx X P w K mg base k N nk) (S : Bs X W) (i j : Nat) (h : XX X W ρ e C ns xs) (hi : N[i]? = some s := by rfl) (hj : nk[j]? = some (s, kd) := by rfl) (hl : isLoc kd = true := by rfl)
    (hs : swapsWith e (some (.Name s p')) pos.line X.env = pure false := by rfl) : XB X W ρ (.Assign [.Name s p'] e pos :: more) (.exc C ns xs ρ) := xb_stop (xs_setX B.nd (B.at_ hi) (B.loc hj hl) (S.fn _) h hs) trivial

/-! ### try -/
theorem takesN_of {X : Cx} {W : WX} (t : L2.Takes X W) : L2N.Takes X W := fun u s' x => by
  obtain ⟨a, B, sI, pins, σ, H, cls, d, rfl, I, nb, up, sky, na, os, ag, w⟩ := x
  refine t _ _ ⟨a, B, sI, pins, σ, H, cls, d, rfl, I, nb, up, ?_, na, os, ag, w⟩
  rcases sky with ⟨hB, hn, hl, oe, vs, he, hz, hd, h1⟩ | fl | hd
  · exact .inl ⟨hB, hn, hl, oe, vs, he, hz.zc, hd, h1⟩
  · exact .inr (.inl (L2H.flyingZ_imp (fun o z => z.zc) fl))
  · exact .inr (.inr ⟨hd.1, hd.2.1, hd.2.2.1, L2H.tracedZ_imp (fun o z => z.zc) hd.2.2.2⟩)
def W0 : WX := fun _ _ _ _ => False
theorem takesW0 {X : Cx} : L2.Takes X W0 := takes0
def noExc : Out → Prop
  | .exc _ _ _ _ => False
  | _ => True
theorem Bx.tr (B : Bx X P w K mg base k N nk) (pn : List (Addr × Obj)) (xe : Value → Shared → Prop) : Bx (X.tr pn xe) P w K mg base k N nk := ⟨B.hP, B.hw, B.hK, B.hm, B.hb, B.room, B.calm, B.hN, B.hs, B.nd⟩
theorem Bs.tr {W' : WX} (S : Bs X W) {pn : List (Addr × Obj)} {xe : Value → Shared → Prop} (tk : L2N.Takes (X.tr pn xe) W') (po : PassesOwn (model X.prog X.w) X.A X.env xe) : Bs (X.tr pn xe) W' := ⟨po, tk, S.fn, S.kd, S.st, S.fr⟩
theorem Fin.noX {K : PySem.W.Frag} {W W' : WX} {Bv Bs : Hp} {D : Ends} {o : Out} (h : Fin K W Bv Bs D o) (q : noExc o) : Fin K W' Bv Bs D o := by
  cases o with
  | exc => exact q.elim
  | _ => exact h
/-- a try whose body raises nothing: what its clause holds is never looked at -/
theorem xs_tryOk {x : Str} {np pos' : Pos} {b₀ : Stmt} {suite : List Stmt} (B : Bx X P w K mg base k N nk) (S : Bs X W) (T : ExCls K mg x F) (j : Nat)
    (hb : ∀ (Y : Cx) (W' : WX), Bx Y P w K mg base k N nk → Bs Y W' → Y.env = X.env → XB Y W' ρ body o) (q : noExc o) (hj : nk[j]? = some (x, .globalImplicit) := by rfl) (hd : (x == ("__debug__" : Str)) = false := by decide +kernel) :
    XS X W ρ (.Try body [.ExceptHandler (some (.Name x np)) none (b₀ :: suite) pos'] [] [] pos) o :=
  PS.imp (ps_try_only (tb := fun W' => tS X.K W' ρ o) (ts := fun _ _ _ => tNever) S.st S.fr (c := .ref F) ⟨B.gl hj, hd, .inl (by rw [B.hm]; exact T.mg_)⟩ (takesW0)
    (fun W' pn xe tk po => hb _ W' (B.tr pn xe) (S.tr (takesN_of tk) po) rfl) fun _ _ _ _ _ _ _ => pss_never) fun D σ H ⟨Bv, Bs, Hv, g, k⟩ => ⟨Bv, Bs, Hv, g, k.noX q⟩
theorem xs_tryOkAs {x y : Str} {np pos' : Pos} {b₀ : Stmt} {suite : List Stmt} (B : Bx X P w K mg base k N nk) (S : Bs X W) (T : ExCls K mg x F) (i j j2 : Nat)
    (hb : ∀ (Y : Cx) (W' : WX), Bx Y P w K mg base k N nk → Bs Y W' → Y.env = X.env → XB Y W' ρ body o) (q : noExc o) (hi : N[i]? = some y := by rfl) (hj2 : nk[j2]? = some (y, .local) := by rfl) (hj : nk[j]? = some (x, .globalImplicit) := by rfl) (hd : (x == ("__debug__" : Str)) = false := by decide +kernel) :
    XS X W ρ (.Try body [.ExceptHandler (some (.Name x np)) (some y) (b₀ :: suite) pos'] [] [] pos) o :=
  PS.imp (ps_try_as (tb := fun W' => tS X.K W' ρ o) (ts := fun _ _ _ => tNever) S.st S.fr B.nd (B.at_ hi) (B.lookup_loc hj2) (c := .ref F) ⟨B.gl hj, hd, .inl (by rw [B.hm]; exact T.mg_)⟩ (takesW0)
    (fun W' pn xe tk po => hb _ W' (B.tr pn xe) (S.tr (takesN_of tk) po) rfl) fun _ _ _ _ _ _ _ => pss_never) fun D σ H ⟨Bv, Bs, Hv, g, k⟩ => ⟨Bv, Bs, Hv, g, k.noX q⟩
/-- what stands around an except suite -/
structure Hx (Y X : Cx) (K : PySem.W.Frag) (mg : Str → Option Value) (N : List Str) (nk : List (Str × NameKind)) (C a : Addr) (od : Option Addr) : Prop where
  hY : ∃ oe pn, Y = X.suite a ((a, oe) :: pn) ∧ Zc (.ref C) od oe ∧ ∃ vs, oe.data = .fields vs
  hK : Y.K = K
  hm : Y.mg = mg
  hN : Y.N = N
  hs : ∀ (j : Nat) (s : Str) (kd : NameKind), nk[j]? = some (s, kd) → ∃ kd', Y.env.scope.names.lookup s = some kd' ∧ (kd' = kd ∨ (kd = .free ∧ kd' = .cell))
  nd : Y.N.Nodup
/-- what the try makes of its suite's outcome: the name goes -/
def outAs (i : Nat) : Out → Out
  | .nx ρ => .nx (ρ.set i .no)
  | .bk ρ => .bk (ρ.set i .no)
  | .ct ρ => .ct (ρ.set i .no)
  | o => o
theorem Fin.suiteAs {K : PySem.W.Frag} {Bv Bs : Hp} {D : Ends} (i : Nat) (h : Fin K W Bv Bs D (outAs i o)) (q : noExc o) : Fin K W0 Bv Bs { nx := fun σ' H' => D.nx (σ'.set i none) H', rt := D.rt, bk := fun σ' H' => D.bk (σ'.set i none) H', ct := fun σ' H' => D.ct (σ'.set i none) H' } o := by
  cases o with
  | exc => exact q.elim
  | nx ρ => exact fun σ H Hv g => h _ H Hv (g.no i)
  | bk ρ => exact fun σ H Hv g => h _ H Hv (g.no i)
  | ct ρ => exact fun σ H Hv g => h _ H Hv (g.no i)
  | ret d => exact h
  | retO l => exact h
  | retP a b => exact h
/-! ### in a suite -/
theorem Hx.vis {Y : Cx} {a : Addr} {od : Option Addr} (B : Hx Y X K mg N nk C a od) {j : Nat} (hj : nk[j]? = some (s, kd)) (h : isVis kd = true) : Vis Y.env.scope s := by
  obtain ⟨kd', h1, rfl | ⟨rfl, rfl⟩⟩ := B.hs j s kd hj
  · cases kd' with
    | «local» => exact .inl h1
    | cell => exact .inr (.inl h1)
    | free => exact .inr (.inr h1)
    | _ => cases h
  · exact .inr (.inl h1)
theorem Hx.gl {Y : Cx} {a : Addr} {od : Option Addr} (B : Hx Y X K mg N nk C a od) {j : Nat} (hj : nk[j]? = some (s, .globalImplicit)) : Gl Y s := by
  obtain ⟨kd', h1, rfl | ⟨z, _⟩⟩ := B.hs j s _ hj
  · exact h1
  · cases z
theorem Hx.at_ {Y : Cx} {a : Addr} {od : Option Addr} (B : Hx Y X K mg N nk C a od) {i : Nat} (h : N[i]? = some s) : Y.N[i]? = some s := by
  rw [B.hN]
  exact h
theorem Hx.none {Y : Cx} {a : Addr} {od : Option Addr} (B : Hx Y X K mg N nk C a od) (h : mg s = none) : Y.mg s = none := by
  rw [B.hm]
  exact h
/-- the dict of the caught one stands -/
def DctAt (H : Hp) (od : Option Addr) : Prop := od = none ∨ ∃ dd fs, od = some dd ∧ H dd = some (.xd fs)
theorem ExAt.dct {Hv H : Hp} {ns : List Str} {xs : List D} {od : Option Addr} (h : ExAt K Hv ns xs od) (e : Ex Hv H) : DctAt H od := by
  rcases h with ⟨_, _, h⟩ | ⟨dd, ys, h1, h2, _, _⟩
  · exact .inl h
  · exact .inr ⟨dd, _, h1, e _ _ h2⟩
theorem instAt_suite {a D : Addr} {od : Option Addr} {oe : Obj} {pn pins : List (Addr × Obj)} {σ : L2.St} {H : Hp} {sh : Shared} (I : Inv (X.suite a ((a, oe) :: pn)) pins σ H sh) (hz : Zc (.ref D) od oe) (hf : ∃ vs, oe.data = .fields vs) (hd : DctAt H od) : ∃ q, PySem.W.InstAt sh.heap a oe D q := by
  obtain ⟨hget, _⟩ := I.pin (a, oe) (List.mem_append.mpr (.inl List.mem_cons_self))
  obtain ⟨vs, hv⟩ := hf
  rcases hd with rfl | ⟨dd, fs, rfl, hH⟩
  · obtain ⟨oc, odc, oda, osl⟩ := oe
    obtain ⟨h1, h2⟩ := hz
    dsimp only at h1 h2 hv
    subst h1 h2 hv
    exact ⟨none, hget, rfl, rfl, trivial⟩
  · have hx : ObjOk X.prog X.w H sh.heap dd (.xd fs) := I.hok dd _ hH
    obtain ⟨mA, hns, hr⟩ := hx
    obtain ⟨ob, ho, hl⟩ := lookIn_ns hns
    exact ⟨some ob, hget, hz.1, by unfold PySem.W.notCls; rw [hv] <;> rfl, by rw [hz.2]; exact ho⟩
/-- isinstance(e, c), e the caught one; c one class, or a tuple of them -/
def rIsX (K : PySem.W.Frag) (D a : Addr) (d : Option Addr) : List V → Hp → VK → Prop := fun xs H Q => ∃ (c : V) (cv : Value) (r : Bool), xs = [.ref a, c] ∧ ClsV c cv ∧ PySem.W.kitOne K (.ref D) cv = some r ∧ DctAt H d ∧ Q (.bl r) H
theorem call_isX {a D : Addr} {od : Option Addr} {oe : Obj} {pn : List (Addr × Obj)} (T : ExCls X.K mg s D) (hz : Zc (.ref D) od oe) (hf : ∃ vs, oe.data = .fields vs) : CallR (X.suite a ((a, oe) :: pn)) (.builtin "isinstance") (rIsX X.K D a od) := by
  intro pins sh σ H xs us Q I r h
  obtain ⟨c, cv, b, rfl, hcv, e, hd, q⟩ := h
  cases r with
  | cons rx rr =>
    cases rr with
    | cons rt rr =>
      cases rr
      cases rx
      have ec := hcv.eq rt
      subst ec
      obtain ⟨q1, J⟩ := instAt_suite I hz hf hd
      exact PySem.W.kia_one (PySem.W.kitx_exc (by obtain ⟨cd, hc, _⟩ := PySem.W.any_some T.hd; rw [hc]; rfl) T.ga T.gg T.sub T.ca T.cn T.ct T.mo) I.kIn J e (fun z => nomatch z) fun tk => ⟨.bl b, H, I.kept (t' := tk) fun _ _ z => z, rfl, q⟩
def rIsXT (K : PySem.W.Frag) (D a : Addr) (d : Option Addr) : List V → Hp → VK → Prop := fun xs H Q => ∃ (tp : Addr) (cs : List V) (us : List Value) (r : Bool), xs = [.ref a, .ref tp] ∧ SqT K H tp cs ∧ Paired ClsV cs us ∧ PySem.W.kitAny K (.ref D) us = some r ∧ DctAt H d ∧ Q (.bl r) H
theorem call_isXT {a D : Addr} {od : Option Addr} {oe : Obj} {pn : List (Addr × Obj)} (T : ExCls X.K mg s D) (hz : Zc (.ref D) od oe) (hf : ∃ vs, oe.data = .fields vs) : CallR (X.suite a ((a, oe) :: pn)) (.builtin "isinstance") (rIsXT X.K D a od) := by
  intro pins sh σ H xs us Q I r h
  obtain ⟨tp, cs, ws, b, rfl, hT, kk, e, hd, q⟩ := h
  cases r with
  | cons rx rr =>
    cases rr with
    | cons rt rr =>
      cases rr
      cases rx
      cases rt
      obtain ⟨q1, J⟩ := instAt_suite I hz hf hd
      obtain ⟨its, rv, pl, _⟩ := I.tuple hT
      have e3 := ClsV.all kk rv
      subst e3
      obtain ⟨ob, h1, h2, n, h3⟩ := pl
      obtain ⟨oc, ocd, dt, sl⟩ := ob
      simp only at h2 h3
      subst h2 h3
      exact PySem.W.kia_tup (PySem.W.kitx_exc (by obtain ⟨cd, hc, _⟩ := PySem.W.any_some T.hd; rw [hc]; rfl) T.ga T.gg T.sub T.ca T.cn T.ct T.mo) I.kIn J h1 e (fun z => nomatch z) fun tk => ⟨.bl b, H, I.kept (t' := tk) fun _ _ z => z, rfl, q⟩
theorem h_cls {Y : Cx} {a : Addr} {od : Option Addr} (B : Hx Y X K mg N nk C a od) (j : Nat) (T : mg s = some (.ref F)) (hj : nk[j]? = some (s, .globalImplicit) := by rfl) (hd : (s == ("__debug__" : Str)) = false := by decide +kernel) : XE Y ρ (.Name s pos) (.v (.ref F)) :=
  xe_glob (B.gl hj) (by rw [B.hm]; exact T) rfl hd
theorem h_bcl {Y : Cx} {a : Addr} {od : Option Addr} {id : String} (B : Hx Y X K mg N nk C a od) (j : Nat) (hm : mg s = none) (hv : bootBuiltins s = some (.type id)) (hj : nk[j]? = some (s, .globalImplicit) := by rfl) (hn : s ≠ "__name__" := by decide +kernel) (hd : (s == ("__debug__" : Str)) = false := by decide +kernel) : XE Y ρ (.Name s pos) (.v (.ty id)) :=
  xe_of (pe_bltn (B.gl hj) (B.none hm) hv (show RelV (.ty id) (.type id) from rfl) hn hd) fun _ _ _ q => q
/-- the caught one, handed to isinstance with one class -/
theorem h_is {Y : Cx} {a : Addr} {od : Option Addr} {ns : List Str} {xs : List D} {y : Str} {ce : Expr} {py : Pos} {cv : V} {u : Value} {x : Str} (B : Hx Y X K mg N nk C a od) (T : ExCls K mg x C) (i j j2 : Nat) (hm : mg "isinstance" = none) (hc : XE Y ρ ce (.v cv)) (hcl : ClsV cv u) (hr : PySem.W.kitOne K (.ref C) u = some Bo)
    (hρ : ρ[i]? = some (.exc a od ns xs) := by rfl) (hi : N[i]? = some y := by rfl) (hj2 : nk[j2]? = some (y, kd) := by rfl) (hv : isVis kd = true := by rfl) (hj : nk[j]? = some (("isinstance" : Str), NameKind.globalImplicit) := by rfl) (hd : (y == ("__debug__" : Str)) = false := by decide +kernel) (hcd : (y == ("__classdict__" : Str)) = false := by decide +kernel)
    (he : starEach [.Name y py, ce] Y.env = (false, eval (.Name y py) Y.env) :: starEach [ce] Y.env := by rfl) (he2 : starEach [ce] Y.env = (false, eval ce Y.env) :: starEach [] Y.env := by rfl) (hpl : (backTo pos (starEach [ce] Y.env)).any (·.1) = false := by rfl) :
    XE Y ρ (.Call (.Name "isinstance" p) [.Name y py, ce] [] pos) (.bl Bo) := by
  obtain ⟨oe, pn, rfl, hz, hf⟩ := B.hY
  have hK : X.K = K := B.hK
  subst hK
  refine PE.imp (pe_callB (call_isX T hz hf) (B.gl hj) (B.none hm) PyProof.Rows.boot_isinstance (pa_cons (pe_var (i := i) (B.at_ hi) (B.vis hj2 hv) hd hcd) (pa_cons hc pa_nil he2) he) (he := he) (hpl := hpl)) fun σ H Q ⟨Bv, Bs, Hv, g, kk⟩ => ?_
  obtain ⟨o', h1, h2, h3⟩ := g.at_ i _ hρ
  subst h2
  refine ⟨.ref a, h1, Bv, Bs, Hv, g, fun v H1 Hv1 g1 e1 r1 => ?_⟩
  rw [rp_v r1]
  exact ⟨cv, u, Bo, rfl, hcl, hr, (h3.mono e1.vv).dct g1.vx.vh, kk _ H1 Hv1 g1 e1 rp_v'⟩
/-- .. with a tuple of classes -/
theorem h_isT {Y : Cx} {a : Addr} {od : Option Addr} {ns : List Str} {xs : List D} {y : Str} {ce : Expr} {py : Pos} {cvs : List V} {us : List Value} {x : Str} (B : Hx Y X K mg N nk C a od) (T : ExCls K mg x C) (i j j2 : Nat) (hm : mg "isinstance" = none) (hc : XE Y ρ ce (.tup ds)) (hcl : Paired ClsV cvs us) (hr : PySem.W.kitAny K (.ref C) us = some Bo) (hds : ds = cvs.map D.v := by rfl)
    (hρ : ρ[i]? = some (.exc a od ns xs) := by rfl) (hi : N[i]? = some y := by rfl) (hj2 : nk[j2]? = some (y, kd) := by rfl) (hv : isVis kd = true := by rfl) (hj : nk[j]? = some (("isinstance" : Str), NameKind.globalImplicit) := by rfl) (hd : (y == ("__debug__" : Str)) = false := by decide +kernel) (hcd : (y == ("__classdict__" : Str)) = false := by decide +kernel)
    (he : starEach [.Name y py, ce] Y.env = (false, eval (.Name y py) Y.env) :: starEach [ce] Y.env := by rfl) (he2 : starEach [ce] Y.env = (false, eval ce Y.env) :: starEach [] Y.env := by rfl) (hpl : (backTo pos (starEach [ce] Y.env)).any (·.1) = false := by rfl) :
    XE Y ρ (.Call (.Name "isinstance" p) [.Name y py, ce] [] pos) (.bl Bo) := by
  subst hds
  obtain ⟨oe, pn, rfl, hz, hf⟩ := B.hY
  have hK : X.K = K := B.hK
  subst hK
  refine PE.imp (pe_callB (call_isXT T hz hf) (B.gl hj) (B.none hm) PyProof.Rows.boot_isinstance (pa_cons (pe_var (i := i) (B.at_ hi) (B.vis hj2 hv) hd hcd) (pa_cons hc pa_nil he2) he) (he := he) (hpl := hpl)) fun σ H Q ⟨Bv, Bs, Hv, g, kk⟩ => ?_
  obtain ⟨o', h1, h2, h3⟩ := g.at_ i _ hρ
  subst h2
  refine ⟨.ref a, h1, Bv, Bs, Hv, g, fun v H1 Hv1 g1 e1 r1 => ?_⟩
  obtain ⟨tp, zs, rfl, q1, q2⟩ := rp_tup r1
  have := rpL_vs q2
  subst this
  exact ⟨tp, _, us, Bo, rfl, Evl.ex_t g1.vx.vh q1, hcl, hr, (h3.mono e1.vv).dct g1.vx.vh, kk _ H1 Hv1 g1 e1 rp_v'⟩
/-- .. is None, of what stands in the heap -/
def isRefD : D → Bool
  | .v _ => false
  | .pin _ _ => false
  | _ => true
theorem rp_ref {H : Hp} {u : V} (h : isRefD d = true) (r : Rp K H d u) : ∃ a, u = .ref a := by
  cases d with
  | v x => cases h
  | pin x d => cases h
  | tup l =>
    obtain ⟨a, xs, rfl, _⟩ := rp_tup r
    exact ⟨a, rfl⟩
  | lst l =>
    obtain ⟨a, xs, rfl, _⟩ := rp_lst r
    exact ⟨a, rfl⟩
  | obj C ns l =>
    unfold Rp at r
    obtain ⟨a, _, _, rfl, _⟩ := r
    exact ⟨a, rfl⟩
  | dct ks l =>
    unfold Rp at r
    obtain ⟨a, _, rfl, _⟩ := r
    exact ⟨a, rfl⟩
theorem t_isNd (ha : XE X ρ a d) (hb : XE X ρ b .non) (h : isRefD d = true) : XT X ρ (.Compare a [.Is] [b] pos) false :=
  PT.imp (pt_cmpR op_isN ha hb (nomark _)) fun σ H Q ⟨Bv, Bs, Hv, g, k⟩ => ⟨Bv, Bs, Hv, g, fun v1 H1 Hv1 g1 e1 r1 => ⟨Bv, Bs, Hv1, g1, fun v2 H2 Hv2 g2 e2 r2 => by
    obtain ⟨q, rfl⟩ := rp_ref h r1
    exact ⟨rp_v r2, _, rfl, by
      rw [show decide (V.ref q = V.non) = false from rfl]
      exact k H2 Hv2 g2 (e1.trans e2)⟩⟩⟩
/-- {} -/
theorem xe_dct0 : XE X ρ (.Dict [] [] pos) (.dct [] []) :=
  PE.imp pe_dnewK fun σ H Q ⟨Bv, Bs, Hv, g, k⟩ => fun q hq => by
    refine k _ _ _ (g.newV hq) (Vx.newV g.vx.vh hq) ?_
    unfold Rp
    exact ⟨q, [], rfl, upd_same, rfl, rpL_nil⟩
/-- things that is_whole may be asked of -/
def plainD : D → Bool
  | .v .non => true
  | .v (.bl _) => true
  | .v (.int _) => true
  | .v (.str _) => true
  | .lst _ => true
  | .tup _ => true
  | .dct _ _ => true
  | _ => false
/-- range(i, j, c) upwards -/
theorem rs_pos {i j c : Int} (hc : 0 < c) : 0 ≤ Builtin.Range.rangeSize i j c ∧ (Builtin.Range.rangeSize i j c = 0 ∨ Builtin.Range.rangeSize i j c ≤ j - i) ∧ ∀ k : Int, 0 ≤ k → k < Builtin.Range.rangeSize i j c → i + k * c < j := by
  unfold Builtin.Range.rangeSize
  rw [if_pos hc]
  by_cases h : i < j
  · rw [if_pos h]
    have h1 : 0 ≤ (j - i - 1) / c := Int.ediv_nonneg (by omega) (by omega)
    have h2 : (j - i - 1) / c ≤ j - i - 1 := Int.ediv_le_self _ (by omega)
    have h3 : (j - i - 1) / c * c ≤ j - i - 1 := Int.ediv_mul_le _ (by omega)
    refine ⟨by omega, .inr (by omega), fun k h4 h5 => ?_⟩
    have h6 : k * c ≤ (j - i - 1) / c * c := Int.mul_le_mul_of_nonneg_right (by omega) (by omega)
    omega
  · rw [if_neg h]
    exact ⟨Int.le_refl _, .inl rfl, fun k h4 h5 => by omega⟩
theorem small_pos {i j c : Int} (hi : -(2 ^ 60) ≤ i ∧ i ≤ 2 ^ 60) (hj : -(2 ^ 60) ≤ j ∧ j ≤ 2 ^ 60) (hc : 0 < c ∧ c < 1000000) : Builtin.Range.small i j c = true := by
  obtain ⟨h1, h2, _⟩ := rs_pos (i := i) (j := j) hc.1
  unfold Builtin.Range.small
  generalize Builtin.Range.rangeSize i j c = r at h1 h2
  simp only [Builtin.Range.rangeFitsLong, Bool.and_eq_true, Bool.or_eq_true, decide_eq_true_eq, beq_iff_eq, show c > 0 from hc.1, if_true]
  omega
end
end PL
/-! objects: made, asked for their fields, their methods called -/
namespace PL
open PySem PySem.Spec L2
open Evl (Ex)
theorem putF_new {f : Str} {v : V} : ∀ {fs : List (Str × V)}, (∀ q ∈ fs, q.1 ≠ f) → putF f v fs = fs ++ [(f, v)]
  | [], _ => rfl
  | (g, x) :: r, h => by
    show (if g = f then (g, v) :: r else (g, x) :: putF f v r) = _
    rw [if_neg (h (g, x) List.mem_cons_self), putF_new fun q hq => h q (List.mem_cons_of_mem _ hq)]
    rfl
theorem zip_app {ns : List Str} {xs : List V} {f : Str} {v : V} (h : ns.length = xs.length) : (ns ++ [f]).zip (xs ++ [v]) = ns.zip xs ++ [(f, v)] := by
  rw [List.zip_append h]
  rfl
theorem zip_fst {ns : List Str} {xs : List V} {q : Str × V} (h : q ∈ ns.zip xs) : q.1 ∈ ns := (List.of_mem_zip (show (q.1, q.2) ∈ ns.zip xs from h)).1
def noSlf : List E → Bool
  | [] => true
  | .slf _ _ _ _ :: _ => false
  | _ :: r => noSlf r
theorem noSlf_get : ∀ {ρ : List E} {j : Nat} {p C : Addr} {ns : List Str} {l : List D}, noSlf ρ = true → ρ[j]? ≠ some (.slf p C ns l)
  | [], j, _, _, _, _, _, h => by simp at h
  | e :: r, 0, _, _, _, _, hn, h => by
    simp at h
    subst h
    cases hn
  | e :: r, j + 1, _, _, _, _, hn, h => by
    refine noSlf_get (ρ := r) (j := j) ?_ (by simpa using h)
    cases e <;> first | exact hn | cases hn
section
variable {K : PySem.W.Frag} {Bv Bs Hv H : Hp} {ρ : List E} {σ : L2.St}
theorem sg_updS (g : Sg K Bv Bs Hv H ρ σ) {i : Nat} {p C dx : Addr} {ns : List Str} {l : List D} {xs : List V} {f : Str} {d : D} {v : V} (h : ρ[i]? = some (.slf p C ns l)) (hs : noSlf (ρ.set i .no) = true) (hl : ns.length = xs.length) (hr : RpL K Hv l xs) (r : Rp K Hv d v) (hH : H p = some (.ins C dx (ns.zip xs))) :
    Sg K Bv Bs Hv (L2.upd H p (.ins C dx ((ns ++ [f]).zip (xs ++ [v])))) (ρ.set i (.slf p C (ns ++ [f]) (l ++ [d]))) σ := by
  obtain ⟨o, e0, e1, e2, e3, _⟩ := g.at_ i _ h
  subst e1
  have hi : i < ρ.length := (List.getElem?_eq_some_iff.mp h).1
  refine ⟨⟨g.vx.vv, Ex.mut g.vx.hh e2, Ex.mut g.vx.vh e3, g.vx.fr⟩, by rw [List.length_set, g.len], fun j e hj => ?_, fun j k m m' q f1 f2 f3 f4 => ?_⟩
  · by_cases hij : i = j
    · subst hij
      rw [List.getElem?_set_self hi] at hj
      cases hj
      exact ⟨_, e0, rfl, e2, e3, dx, xs ++ [v], upd_same, by rw [List.length_append, List.length_append, hl]; rfl, rpL_app hr (rpL_cons r rpL_nil)⟩
    · have hj2 : (ρ.set i .no)[j]? = ρ[j]? := List.getElem?_set_ne hij
      rw [List.getElem?_set_ne hij] at hj
      obtain ⟨o, g1, g2⟩ := g.at_ j e hj
      refine ⟨o, g1, ?_⟩
      cases e with
      | no => exact trivial
      | val d => exact g2
      | exc a od ns ds => exact g2
      | slf q C' ns' l' => exact absurd (hj2.trans hj) (noSlf_get hs)
      | own m =>
        obtain ⟨q, zs, r1, r2, r3, r4, r5⟩ := g2
        have nr : q ≠ p := fun z => by
          rw [z, hH] at r4
          cases r4
        exact ⟨q, zs, r1, r2, r3, by rw [upd_ne nr]; exact r4, r5⟩
  · have go : ∀ {n : Nat} {m : List D}, (ρ.set i (.slf p C (ns ++ [f]) (l ++ [d])))[n]? = some (.own m) → ρ[n]? = some (.own m) := fun {n m} z => by
      by_cases hin : i = n
      · subst hin
        rw [List.getElem?_set_self hi] at z
        cases z
      · rw [List.getElem?_set_ne hin] at z
        exact z
    exact g.sep j k _ _ q (go f1) (go f2) f3 f4
end
/-- what a __init__ gives -/
inductive RoI where
  | flds (ns : List Str) (l : List D)
  | exc (C : Addr) (ns : List Str) (ds : List D)
  | bad
/-- the heap without p -/
def wo (H : Hp) (p : Addr) : Hp := fun a => if a = p then none else H a
theorem wo_ne {H : Hp} {p a : Addr} (h : a ≠ p) : wo H p a = H a := if_neg h
theorem wo_self {H : Hp} {p : Addr} : wo H p p = none := if_pos rfl
theorem wo_ex {H : Hp} {p : Addr} : Ex (wo H p) H := fun a o e => by
  by_cases h : a = p
  · rw [h, wo_self] at e
    cases e
  · rwa [wo_ne h] at e
def FinI (K : PySem.W.Frag) (C p : Addr) (Hv H : Hp) (Q : VK) (E : XK) : RoI → Prop
  | .flds ns l => ∀ H' Hv' dx xs, Vx Hv (wo H p) Hv' H' → Hv' p = none → H' p = some (.ins C dx (ns.zip xs)) → ns.length = xs.length → RpL K Hv' l xs → Q .non H'
  | .exc C' ns ds => ∀ od H' Hv', Vx Hv (wo H p) Hv' H' → ExAt K Hv' ns ds od → E (.ref C') od H'
  | .bad => False
def spI (K : PySem.W.Frag) (C : Addr) (n : Nat) (φ : List D → RoI) : Sp := fun vs H Q E => ∃ p us dx Hv ds, vs = .ref p :: us ∧ H p = some (.ins C dx []) ∧ Hv p = none ∧ Ex Hv (wo H p) ∧ RpL K Hv ds us ∧ ds.length = n ∧ FinI K C p Hv H Q E (φ ds)
def startI (N : List Str) (p C : Addr) (ds : List D) : List E := .slf p C [] [] :: (ds.map E.val ++ List.replicate (N.length - (ds.length + 1)) .no)
inductive LeadsI (p C : Addr) : Out → RoI → Prop where
  | nx (ρ : List E) (ns : List Str) (l : List D) : ρ[0]? = some (.slf p C ns l) → LeadsI p C (.nx ρ) (.flds ns l)
  | exc (C' : Addr) (ns : List Str) (ds : List D) (ρ : List E) : LeadsI p C (.exc C' ns ds ρ) (.exc C' ns ds)
theorem sg_startI {K : PySem.W.Frag} {Hv H : Hp} {N : List Str} {us : List V} {ds : List D} {p C dx : Addr} (e : Ex Hv (wo H p)) (hp : Hv p = none) (hH : H p = some (.ins C dx [])) (r : RpL K Hv ds us) : Sg K Hv (wo H p) Hv H (startI N p C ds) (L2.start N (.ref p :: us)) := by
  have hl := rpL_len r
  have g := sg_start (N := N.drop 1) (e.trans wo_ex) r
  have e1 : L2.start N (V.ref p :: us) = some (V.ref p) :: L2.start (N.drop 1) us := by
    unfold L2.start
    rw [List.map_cons, List.cons_append, List.length_cons, List.length_drop, show N.length - 1 - us.length = N.length - (us.length + 1) by omega]
  have e2 : startI N p C ds = .slf p C [] [] :: startE (N.drop 1) ds := by
    unfold startI startE
    rw [List.length_drop, show N.length - 1 - ds.length = N.length - (ds.length + 1) by omega]
  rw [e1, e2]
  have noOwn : ∀ (j : Nat) (l : List D), (startE (N.drop 1) ds)[j]? ≠ some (.own l) := fun j l h1 => by
    unfold startE at h1
    by_cases hi : j < ds.length
    · rw [List.getElem?_append_left (by rw [List.length_map]; exact hi), List.getElem?_map] at h1
      cases hd : ds[j]? with
      | none =>
        rw [hd] at h1
        cases h1
      | some d =>
        rw [hd] at h1
        cases h1
    · rw [List.getElem?_append_right (by rw [List.length_map]; omega), List.length_map, List.getElem?_replicate] at h1
      split at h1 <;> cases h1
  have noSelf : ∀ (j : Nat) (p C : Addr) (ns : List Str) (l : List D), (startE (N.drop 1) ds)[j]? ≠ some (.slf p C ns l) := fun j p C ns l h1 => by
    unfold startE at h1
    by_cases hi : j < ds.length
    · rw [List.getElem?_append_left (by rw [List.length_map]; exact hi), List.getElem?_map] at h1
      cases hd : ds[j]? with
      | none =>
        rw [hd] at h1
        cases h1
      | some d =>
        rw [hd] at h1
        cases h1
    · rw [List.getElem?_append_right (by rw [List.length_map]; omega), List.length_map, List.getElem?_replicate] at h1
      split at h1 <;> cases h1
  refine ⟨⟨Ex.refl _, wo_ex, e.trans wo_ex, fun _ _ q => .inl q⟩, by rw [List.length_cons, List.length_cons, g.len], fun i q hq => ?_, fun i j l l' q h1 h2 => ?_⟩
  · cases i with
    | zero =>
      simp at hq
      subst hq
      exact ⟨some (.ref p), rfl, rfl, wo_self, hp, dx, [], hH, rfl, rpL_nil⟩
    | succ i =>
      have hq' : (startE (N.drop 1) ds)[i]? = some q := by simpa using hq
      obtain ⟨o, h1, h2⟩ := g.at_ i q hq'
      refine ⟨o, by simpa using h1, ?_⟩
      cases q with
      | no => exact trivial
      | val d => exact h2
      | exc a od ns ds => exact h2
      | own l => exact absurd hq' (noOwn _ _)
      | slf p C ns l => exact absurd hq' (noSelf _ _ _ _ _)
  · exfalso
    cases i with
    | zero =>
      simp at h1
    | succ i => exact noOwn i l (by simpa using h1)
section
variable {P : Program} {w : World} {K : PySem.W.Frag} {mg : Str → Option Value} {base : Heap}
theorem fn_okI {x qual : Str} {st : Stmt} {f C : Addr} {fd : FuncData} {N ps : List Str} {nk : List (Str × NameKind)} {k n : Nat} {φ : List D → RoI} (F : Fun K x qual st f fd) (S : FnScope N ps (defScope st)) (hnk : (defScope st).names = nk) (hnd : (nk.map (·.1)).Nodup) (hn : ps.length = n + 1)
    (body : ∀ (X : Cx) (W : WX) (p : Addr) (ds : List D), Bx X P w K mg base k N nk → Bs X W → ds.length = n → φ ds ≠ .bad → ∃ o, XB X W (startI N p C ds) (defBody st) o ∧ LeadsI p C o (φ ds)) : FnOk P w K mg base (L2N.CX P w) (k + 1) f fd ps (spI K C n φ) := by
  refine okN F S (fun vs H Q E ⟨p, us, dx, Hv, ds, e, _, _, _, r, hl, _⟩ => by rw [e, List.length_cons, rpL_len r, hl, hn]) (fun cdv A outer s H vs Q E hr ⟨p, us, dx, Hv, ds, e, hH, hp, ex, r, hl, q⟩ => ?_)
  have nb : φ ds ≠ .bad := fun z => by
    rw [z] at q
    exact q
  obtain ⟨o, ho, hL⟩ := body (cxOf (L2N.CX P w) P w K mg base N qual (defScope st) f cdv A outer s H E) (fun cls d _ H => E cls d H) p ds ⟨rfl, rfl, rfl, rfl, rfl, hr, rfl, rfl, fun j s kd hj => ⟨kd, by
    show (defScope st).names.lookup s = some kd
    rw [hnk]
    exact lookup_at hnd hj, .inl rfl⟩, S.nd⟩ ⟨passes_of rfl, L2N.takes_of rfl rfl rfl rfl, fun _ => rfl, S.kind, rfl, rfl⟩ hl nb
  subst e
  refine ⟨_, ho, Hv, wo H p, Hv, sg_startI ex hp hH r, ?_⟩
  generalize φ ds = R at q hL
  cases hL with
  | nx ρ ns l h0 =>
    intro σ H' Hv' g
    obtain ⟨_, _, _, _, e3, dx', xs, e4, e5, e6⟩ := g.at_ 0 _ h0
    exact q H' Hv' dx' xs g.vx e3 e4 e5 e6
  | exc C' ns ds ρ => exact fun od σ H' Hv' g x => q od H' Hv' g.vx x
/-- a class of the text -/
structure ObC (K : PySem.W.Frag) (mg : Str → Option Value) (x : Str) (C : Addr) (ns : List Str) : Prop where
  mg_ : mg x = some (.ref C)
  cl : Cls K C
  na : ∀ f ∈ ns, NoAttr K C f
structure MkC (P : Program) (w : World) (K : PySem.W.Frag) (mg : Str → Option Value) (base : Heap) (C : Addr) (k n : Nat) (dvs : List V) (φ : List D → RoI) : Prop where
  ex : ∃ f fd ps us, Mk K C f ∧ FnOk P w K mg base (L2N.CX P w) k f fd ps (spI K C n φ) ∧ Binds K fd ps us ∧ Vals dvs us
structure MtC (P : Program) (w : World) (K : PySem.W.Frag) (mg : Str → Option Value) (base : Heap) (C : Addr) (m : Str) (k n : Nat) (φ : List D → Ro) : Prop where
  ex : ∃ f fd ps, Meth K C m f ∧ FnOk P w K mg base (L2N.CX P w) k f fd ps (spD K n φ) ∧ Binds K fd ps []
end
section
variable {X : Cx} {P : Program} {w : World} {K : PySem.W.Frag} {mg : Str → Option Value} {base : Heap} {k k' n : Nat} {N : List Str} {nk : List (Str × NameKind)} {W : WX}
variable {ρ ρ' ρ1 ρ2 : List E} {e a b c tg ob : Expr} {es : List Expr} {d f : D} {ds l m : List D} {pos p p' : Pos} {s : Str} {o o1 : Out} {kd : NameKind} {φ : List D → Ro} {body sts other more : List Stmt} {st : Stmt} {Bo : Bool} {C : Addr} {ns : List Str}
/-- self.f = e in a __init__ -/
theorem x_fldE {q : Addr} {g : Str} {p1 p2 : Pos} (B : Bx X P w K mg base k N nk) (i j : Nat) (hr : ρ[i]? = some (.slf q C ns l)) (h : XE X ρ e d) (c : Cls K C) (n : NoAttr K C g) (hρ : ρ.set i (.slf q C (ns ++ [g]) (l ++ [d])) = ρ1) (t : XB X W ρ1 more o) (hn : ns.contains g = false := by decide +kernel) (hl : ns.length < 100 := by decide) (h1 : noSlf (ρ.set i .no) = true := by rfl)
    (hi : N[i]? = some s := by rfl) (hj : nk[j]? = some (s, kd) := by rfl) (hv : isVis kd = true := by rfl) (hd : (s == ("__debug__" : Str)) = false := by decide +kernel) (hcd : (s == ("__classdict__" : Str)) = false := by decide +kernel)
    (hs : swapsWith e (some (.Attribute (.Name s p1) g p2)) pos.line X.env = pure false := by rfl) : XB X W ρ (.Assign [.Attribute (.Name s p1) g p2] e pos :: more) o := by
  subst hρ
  refine xb_cons (PS.imp (ps_fld (pe_var (i := i) (B.at_ hi) (B.vis hj hv) hd hcd) h hs) fun D σ H ⟨Bv, Bs, Hv, gg, kk⟩ => ⟨Bv, Bs, Hv, gg, fun v H1 Hv1 g1 e1 r1 => ?_⟩) t
  obtain ⟨o', z0, z1, z2, z3, dx, xs, z4, z5, z6⟩ := g1.at_ i _ hr
  subst z1
  refine ⟨.ref q, z0, q, C, dx, ns.zip xs, rfl, z4, by rw [B.hK]; exact c, by rw [B.hK]; exact n, by rw [List.length_zip]; omega, ?_⟩
  have hnew : ∀ y ∈ ns.zip xs, y.1 ≠ g := fun y hy e => by
    have := zip_fst hy
    rw [e] at this
    rw [List.contains_iff_mem.mpr this] at hn
    cases hn
  rw [putF_new hnew, ← zip_app z5]
  exact kk _ _ Hv1 (sg_updS g1 hr h1 z5 z6 r1 z4)
/-- a new instance -/
theorem x_make {x : Str} {dvs : List V} {ψ : List D → RoI} (B : Bx X P w K mg base k N nk) (hm : mg x = some (.ref C)) (F : MkC P w K mg base C k' n dvs ψ) (j : Nat) (ha : XA X ρ (e :: es) ds) (hφ : ψ (ds ++ dvs.map D.v) = .flds ns l) (hk : k' + 1 ≤ k := by decide) (hn : ds.length + dvs.length = n := by rfl) (hj : nk[j]? = some (x, .globalImplicit) := by rfl) (hdb : (x == ("__debug__" : Str)) = false := by decide +kernel)
    (he : starEach (e :: es) X.env = (false, eval e X.env) :: starEach es X.env := by rfl) (hpl : (backTo pos (starEach es X.env)).any (·.1) = false := by rfl) : XE X ρ (.Call (.Name x p) (e :: es) [] pos) (.obj C ns l) := by
  obtain ⟨f, fd, ps, us, M, F, hb, hv⟩ := F.ex
  rw [← B.hP, ← B.hw, ← B.hK, ← B.hm, ← B.hb] at F
  rw [← B.hK] at M hb
  rw [← B.hm] at hm
  refine PE.imp (pe_make M F (B.room.mono hk) (B.gl hj) hm hb hv (passN (X := X)) ha hdb he hpl) fun σ H Q ⟨Bv, Bs, Hv, gg, kk⟩ => ⟨Bv, Bs, Hv, gg, fun vs H1 Hv1 g1 e1 r1 => fun y dy hy hdy hne => ?_⟩
  have hv1 : Hv1 y = none := Evl.fresh_back g1.vx.vh hy
  have hx1 : Ex H1 (wo (upd (upd H1 dy (.own y)) y (.ins C dy [])) y) := fun a o e => by
    have na : a ≠ y := fun z => by rw [z, hy] at e; cases e
    have nd : a ≠ dy := fun z => by rw [z, hdy] at e; cases e
    rw [wo_ne na, upd_ne na, upd_ne nd]
    exact e
  refine ⟨y, vs ++ dvs, dy, Hv1, ds ++ dvs.map D.v, rfl, upd_same, hv1, g1.vx.vh.trans hx1, rpL_app r1 rpL_vs', by rw [List.length_append, List.length_map]; exact hn, ?_⟩
  rw [hφ]
  intro H' Hv' dx xs x hp hH hl hr
  refine ⟨rfl, ?_⟩
  have v2 : Vx Hv1 H1 (upd Hv' y (.ins C dx (ns.zip xs))) H' := by
    refine ⟨x.vv.trans (Ex.new hp), hx1.trans x.hh, fun a o e => ?_, fun a o e => ?_⟩
    · by_cases z : a = y
      · subst z
        rw [upd_same] at e
        cases e
        exact hH
      · rw [upd_ne z] at e
        exact x.vh _ _ e
    · by_cases z : a = y
      · subst z
        exact .inr hy
      · rw [upd_ne z] at e
        rcases x.fr a o e with q | q
        · exact .inl q
        · refine .inr ?_
          cases w' : H1 a with
          | none => rfl
          | some o' =>
            rw [hx1 _ _ w'] at q
            cases q
  refine kk _ _ _ (g1.go v2) (e1.trans v2) ?_
  unfold Rp
  exact ⟨y, dx, xs, rfl, upd_same, hl, rpL_mono (Ex.new hp) hr⟩
theorem x_make0 {x : Str} {dvs : List V} {ψ : List D → RoI} (B : Bx X P w K mg base k N nk) (hm : mg x = some (.ref C)) (F : MkC P w K mg base C k' n dvs ψ) (j : Nat) (hφ : ψ (dvs.map D.v) = .flds ns l) (hk : k' + 1 ≤ k := by decide) (hn : dvs.length = n := by rfl) (hj : nk[j]? = some (x, .globalImplicit) := by rfl) (hdb : (x == ("__debug__" : Str)) = false := by decide +kernel) :
    XE X ρ (.Call (.Name x p) [] [] pos) (.obj C ns l) := by
  obtain ⟨f, fd, ps, us, M, F, hb, hv⟩ := F.ex
  rw [← B.hP, ← B.hw, ← B.hK, ← B.hm, ← B.hb] at F
  rw [← B.hK] at M hb
  rw [← B.hm] at hm
  refine PE.imp (pe_make0 M F (B.room.mono hk) (B.gl hj) hm hb hv (passN (X := X)) hdb) fun σ H1 Q ⟨Bv, Bs, Hv1, g1, kk⟩ => fun y dy hy hdy hne => ?_
  have hv1 : Hv1 y = none := Evl.fresh_back g1.vx.vh hy
  have hx1 : Ex H1 (wo (upd (upd H1 dy (.own y)) y (.ins C dy [])) y) := fun a o e => by
    have na : a ≠ y := fun z => by rw [z, hy] at e; cases e
    have nd : a ≠ dy := fun z => by rw [z, hdy] at e; cases e
    rw [wo_ne na, upd_ne na, upd_ne nd]
    exact e
  refine ⟨y, dvs, dy, Hv1, dvs.map D.v, rfl, upd_same, hv1, g1.vx.vh.trans hx1, rpL_vs', by rw [List.length_map]; exact hn, ?_⟩
  rw [hφ]
  intro H' Hv' dx xs x hp hH hl hr
  refine ⟨rfl, ?_⟩
  have v2 : Vx Hv1 H1 (upd Hv' y (.ins C dx (ns.zip xs))) H' := by
    refine ⟨x.vv.trans (Ex.new hp), hx1.trans x.hh, fun a o e => ?_, fun a o e => ?_⟩
    · by_cases z : a = y
      · subst z
        rw [upd_same] at e
        cases e
        exact hH
      · rw [upd_ne z] at e
        exact x.vh _ _ e
    · by_cases z : a = y
      · subst z
        exact .inr hy
      · rw [upd_ne z] at e
        rcases x.fr a o e with q | q
        · exact .inl q
        · refine .inr ?_
          cases w' : H1 a with
          | none => rfl
          | some o' =>
            rw [hx1 _ _ w'] at q
            cases q
  refine kk _ _ _ (g1.go v2) v2 ?_
  unfold Rp
  exact ⟨y, dx, xs, rfl, upd_same, hl, rpL_mono (Ex.new hp) hr⟩
/-- .. of a class that has no __init__ of its own -/
structure Mk0 (K : PySem.W.Frag) (C : Addr) : Prop where
  makes : PySem.W.makesIn K C = true
  init : PySem.W.findIn K (.ref C) "__init__" = some (some (.builtin "object.__init__"))
  kp : PySem.W.keepIn K (.ref C) = true
  top : PySem.W.mroIn K C (.type "object") = some true
theorem pe_make00 {x : Str} (M : Mk0 X.K C) (hg : Gl X x) (hm : X.mg x = some (.ref C)) (hdb : (x == ("__debug__" : Str)) = false := by decide) :
    PE X (.Call (.Name x p) [] [] pos) (fun σ H Q => ∀ y dy, H y = none → H dy = none → dy ≠ y → Q (.ref y) (upd (upd H dy (.own y)) y (.ins C dy []))) := by
  refine ⟨fun pins s σ H Q I h => ?_⟩
  refine wpAny_Call_Name_kw (ld_glob I hg hm ?_ hdb)
  refine PySem.W.callWith_K0 I.kIn M.kp ?_
  have hq := h (s.heap.objs.size + 1) s.heap.objs.size (I.hok.fresh (Nat.le_succ _)) (I.hok.fresh (Nat.le_refl _)) (Nat.ne_of_lt (Nat.lt_succ_self _))
  have I2 := Inv.made (C := C) I
  have hget : ((s.heap.push PySem.W.emptyDict).push (PySem.W.instObj C s.heap.objs.size)).get? (s.heap.objs.size + 1) = some (PySem.W.instObj C s.heap.objs.size) := by
    have := Heap.get?_push_size (s.heap.push PySem.W.emptyDict) (o := PySem.W.instObj C s.heap.objs.size) rfl
    rwa [Heap.size_push] at this
  refine wpAny_call (make_map0 I.kIn M.makes M.init (fun _ => PySem.W.Looks.of_pure (PySem.W.oi_bind _)) ?_)
  have t1 := NwA.type_at (M := model X.prog X.w) hget (show (PySem.W.instObj C s.heap.objs.size).cls = .ref C from rfl)
  have t2 : PySem.W.Looks (model X.prog X.w) ((s.heap.push PySem.W.emptyDict).push (PySem.W.instObj C s.heap.objs.size)) (isInstance (.ref (s.heap.objs.size + 1)) (.type "object")) true := t1.andThen (PySem.W.looks_mroIn I2.kIn M.top)
  refine codeAny_call_builtin PySem.W.oi_plain PySem.W.entry_oi (@PySem.W.check_slot (model X.prog X.w) _ _ _ "object.__init__" "object" "__init__" (.ref (s.heap.objs.size + 1)) [] [] _ PySem.W.oi_kind PySem.W.oi_split t2 (NwA.oi_args_any (.ref (s.heap.objs.size + 1)) [] []) ?_)
  rw [PySem.W.oi_run]
  exact wpAny_pure (And.intro rfl ⟨V.ref (s.heap.objs.size + 1), _, I2, rfl, hq⟩)
theorem x_make00 {x : Str} (B : Bx X P w K mg base k N nk) (hm : mg x = some (.ref C)) (M : Mk0 K C) (j : Nat) (hj : nk[j]? = some (x, .globalImplicit) := by rfl) (hdb : (x == ("__debug__" : Str)) = false := by decide +kernel) :
    XE X ρ (.Call (.Name x p) [] [] pos) (.obj C [] []) := by
  rw [← B.hK] at M
  rw [← B.hm] at hm
  refine PE.imp (pe_make00 M (B.gl hj) hm hdb) fun σ H Q ⟨Bv, Bs, Hv, g, kk⟩ => fun y dy hy hdy hne => ?_
  have hv1 : Hv y = none := Evl.fresh_back g.vx.vh hy
  have hx1 : Ex H (upd (upd H dy (.own y)) y (.ins C dy [])) := fun a o e => by
    have na : a ≠ y := fun z => by rw [z, hy] at e; cases e
    have nd : a ≠ dy := fun z => by rw [z, hdy] at e; cases e
    rw [upd_ne na, upd_ne nd]
    exact e
  have v2 : Vx Hv H (upd Hv y (.ins C dy [])) (upd (upd H dy (.own y)) y (.ins C dy [])) := by
    refine ⟨Ex.new hv1, hx1, fun a o e => ?_, fun a o e => ?_⟩
    · by_cases z : a = y
      · subst z
        rw [upd_same] at e ⊢
        exact e
      · rw [upd_ne z] at e
        exact hx1 _ _ (g.vx.vh _ _ e)
    · by_cases z : a = y
      · subst z
        exact .inr hy
      · rw [upd_ne z] at e
        exact .inl e
  refine kk _ _ _ (g.go v2) v2 ?_
  unfold Rp
  exact ⟨y, dy, [], rfl, upd_same, rfl, rpL_nil⟩
end
/-! ### a __init__ with defaults -/
section
variable {P : Program} {w : World} {K : PySem.W.Frag} {mg : Str → Option Value} {base : Heap}
theorem fn_okID {x qual : Str} {st : Stmt} {f C : Addr} {fd : FuncData} {N ps : List Str} {nk : List (Str × NameKind)} {k n : Nat} {dvs : List V} {φ : List D → RoI} (F : FunD K x qual (defArgs st) (defBody st) (defScope st) dvs [] f fd) (S : FnScope N ps (defScope st)) (hnk : (defScope st).names = nk) (hnd : (nk.map (·.1)).Nodup) (hn : ps.length = n + 1)
    (body : ∀ (X : Cx) (W : WX) (p : Addr) (ds : List D), Bx X P w K mg base k N nk → Bs X W → ds.length = n → φ ds ≠ .bad → ∃ o, XB X W (startI N p C ds) (defBody st) o ∧ LeadsI p C o (φ ds)) : FnOk P w K mg base (L2N.CX P w) (k + 1) f fd ps (spI K C n φ) := by
  refine FunD.ok (CX := L2N.CX P w) F S (fun vs H Q E ⟨p, us, dx, Hv, ds, e, _, _, _, r, hl, _⟩ => by rw [e, List.length_cons, rpL_len r, hl, hn]) (fun cdv A outer s H vs Q E hr ⟨p, us, dx, Hv, ds, e, hH, hp, ex, r, hl, q⟩ => ?_)
  have nb : φ ds ≠ .bad := fun z => by
    rw [z] at q
    exact q
  obtain ⟨o, ho, hL⟩ := body (cxOf (L2N.CX P w) P w K mg base N qual (defScope st) f cdv A outer s H E) (fun cls d _ H => E cls d H) p ds ⟨rfl, rfl, rfl, rfl, rfl, hr, rfl, rfl, fun j s kd hj => ⟨kd, by
    show (defScope st).names.lookup s = some kd
    rw [hnk]
    exact lookup_at hnd hj, .inl rfl⟩, S.nd⟩ ⟨passes_of rfl, L2N.takes_of rfl rfl rfl rfl, fun _ => rfl, S.kind, rfl, rfl⟩ hl nb
  subst e
  refine ⟨_, ho, Hv, wo H p, Hv, sg_startI ex hp hH r, ?_⟩
  generalize φ ds = R at q hL
  cases hL with
  | nx ρ ns l h0 =>
    intro σ H' Hv' g
    obtain ⟨_, _, _, _, e3, dx', xs, e4, e5, e6⟩ := g.at_ 0 _ h0
    exact q H' Hv' dx' xs g.vx e3 e4 e5 e6
  | exc C' ns ds ρ => exact fun od σ H' Hv' g x => q od H' Hv' g.vx x
theorem dfl_of {T : Addr} {o : Obj} {xs : List V} (l : K.lookup T = some o) (r : tupOf o = some xs) (hne : xs ≠ []) : DflV K (.ref T) xs := by
  unfold tupOf at r
  split at r
  · cases hd : o.data with
    | seq its n =>
      rw [hd] at r
      simp only at r
      split at r
      · exact .inr ⟨hne, T, o, its.toList, n, rfl, l, by rw [hd], vals_of_abs r⟩
      · cases r
    | _ =>
      rw [hd] at r
      cases r
  · cases r
theorem funD_mk {x qual : Str} {st : Stmt} {f T : Addr} {oc : Value} {od an : Option Addr} {osl : Array (Option Value)} {kV doc pm cdv ct : Value} {o : Obj} {xs : List V} (l : K.lookup f = some ⟨oc, od, .func (PySem.W.fnOf x qual (defArgs st) (defBody st) (defScope st) (.ref T) kV doc pm an cdv ct), osl⟩)
    (c : PySem.W.codeIn K cdv qual = true) (k : PySem.W.keepIn K (.ref f) = true) (lT : K.lookup T = some o) (r : tupOf o = some xs) (hne : xs ≠ []) : FunD K x qual (defArgs st) (defBody st) (defScope st) xs [] f (PySem.W.fnOf x qual (defArgs st) (defBody st) (defScope st) (.ref T) kV doc pm an cdv ct) :=
  ⟨⟨oc, od, .ref T, kV, doc, pm, an, cdv, ct, osl, rfl, l, c, dfl_of lT r hne, .inl rfl⟩, k⟩
theorem mkC_d {x : Str} {C f : Addr} {fd : FuncData} {ps : List Str} {k n : Nat} {dvs : List V} {φ : List D → RoI} (M : Mk K C f) (F : FnOk P w K mg base (L2N.CX P w) k f fd ps (spI K C n φ)) (b : ∃ ds, Vals dvs ds ∧ Binds K fd ps ds) : MkC P w K mg base C k n dvs φ := by
  obtain ⟨ds, h1, h2⟩ := b
  exact ⟨⟨f, fd, ps, ds, M, F, h2, h1⟩⟩
end
end PL
/-! texts, each told by the list of its signs -/
namespace PL
open PySem PySem.Spec L2 PyProof.Rows
open Evl (Ex)
/-- the text of a list of signs -/
abbrev tx (l : List Nat) : Str := ⟨l.toArray⟩
abbrev D.tx (l : List Nat) : D := .str (PL.tx l)
theorem gl_tx {K : PySem.W.Frag} {h : Heap} {mg : Str → Option Value} {s z : Str} {l : List Nat} {t : Tok} (e : z = tx l) (X : K.In h) (G : h.Ns mainGlobals mg) (a : PySem.W.nsIn K mainGlobals s = some (some (.str z t))) : GlD K mg s (.tx l) := by
  subst e
  exact gl_str X G a
theorem ofTx (z : Str) : z = tx z.cps.toList := (SX.S_tl z).symm
/-- a whole number's signs -/
def intL (i : Int) : List Nat := if i < 0 then 45 :: TL.numL (-i).toNat else TL.numL i.toNat
theorem tx_len (l : List Nat) : (tx l).length = l.length := SX.S_len l
theorem tx_eq {a b : List Nat} : (tx a = tx b) ↔ a = b := ⟨SX.S_inj, fun h => by rw [h]⟩
def cutL (l : List Nat) (lo hi : Option Int) : List Nat := (l.drop (HT.sIx l.length 0 lo)).take (HT.sIx l.length l.length hi - HT.sIx l.length 0 lo)
theorem cutS_tx (l : List Nat) (lo hi : Option Int) : cutS (tx l) lo hi = tx (cutL l lo hi) := by
  unfold cutS cutL
  rw [tx_len]
/-- lists of texts -/
def txs (ys : List (List Nat)) : List D := ys.map D.tx
section
variable {X : Cx} {P : Program} {w : World} {K : PySem.W.Frag} {mg : Str → Option Value} {base : Heap} {k k' n : Nat} {N : List Str} {nk : List (Str × NameKind)} {W : WX}
variable {ρ ρ' ρ1 ρ2 : List E} {e a b c tg : Expr} {es : List Expr} {d f : D} {ds l m : List D} {pos p p' : Pos} {s : Str} {o o1 : Out} {kd : NameKind} {φ : List D → Ro} {body sts other more : List Stmt} {st : Stmt} {Bo : Bool} {t u : List Nat}
theorem x_lit {i j} (t : List Nat) (h : i = tx t := by decide +kernel) : XE X ρ (.Constant (.str i) j pos) (.tx t) := by
  rw [h]
  exact xe_str
theorem x_cat (ha : XE X ρ a (.tx t)) (hb : XE X ρ b (.tx u)) (h : t.length + u.length ≤ 1000000) : XE X ρ (.BinOp a .Add b pos) (.tx (t ++ u)) := by
  have := x_bin (pos := pos) ha hb (.catS _ _ (by rw [tx_len, tx_len, sizeLine_eq]; omega))
  rw [show tx t ++ tx u = tx (t ++ u) from SX.S_cat t u] at this
  exact this
theorem x_lenT (B : Bx X P w K mg base k N nk) (j : Nat) (hm : mg "len" = none) (ha : XE X ρ e (.tx t)) (h : t.length ≤ 1000000) (hj : nk[j]? = some (("len" : Str), NameKind.globalImplicit) := by rfl) (he : starEach (e :: []) X.env = (false, eval e X.env) :: starEach [] X.env := by rfl) (hpl : (backTo pos (starEach [] X.env)).any (·.1) = false := by rfl) : XE X ρ (.Call (.Name "len" p) [e] [] pos) (.int t.length) := by
  have := xe_lenS (p := p) (pos := pos) (B.gl hj) (B.none hm) ha (by rw [tx_len, sizeLine_eq]; omega) he hpl
  rw [tx_len] at this
  exact this
theorem x_ixC {i : Int} {c : Nat} (ha : XE X ρ a (.tx t)) (hb : XE X ρ b (.int i)) (hi : atI t i = some c) (h : t.length ≤ 1000000) (hs : PlainIx b := by exact fun _ _ => rfl) : XE X ρ (.Subscript a b pos) (.tx [c]) :=
  xe_ixS ha hb (by rw [tx_len, sizeLine_eq]; omega) hi hs
theorem x_sliceT {lo hi : Option Expr} {i j : Option Int} {p2 : Pos} (ha : XE X ρ a (.tx t)) (hl : XP X ρ lo i) (hh : XP X ρ hi j) (h : t.length ≤ 1000000) : XE X ρ (.Subscript a (.Slice lo hi none p2) pos) (.tx (cutL t i j)) := by
  have := x_sliceS (p2 := p2) (pos := pos) ha hl hh (by rw [tx_len, sizeLine_eq]; omega)
  rw [cutS_tx] at this
  exact this
theorem x_inT {q : Nat} (ha : XE X ρ a (.tx [q])) (hb : XE X ρ b (.tx u)) (hm : behindInMarks .In b = false := by rfl) : XE X ρ (.Compare a [.In] [b] pos) (.bl (decide (q ∈ u))) :=
  PE.imp (pe_cmpR op_in_sign ha hb hm) fun σ H Q ⟨Bv, Bs, Hv, g, k⟩ => ⟨Bv, Bs, Hv, g, fun v1 H1 Hv1 g1 e1 r1 => ⟨Bv, Bs, Hv1, g1, fun v2 H2 Hv2 g2 e2 r2 => by
    exact ⟨q, tx u, rp_v r1, rp_v r2, k _ H2 Hv2 g2 (e1.trans e2) rp_v'⟩⟩⟩
theorem t_notInT {q : Nat} (ha : XE X ρ a (.tx [q])) (hb : XE X ρ b (.tx u)) (hm : behindInMarks .NotIn b = false := by rfl) : XT X ρ (.Compare a [.NotIn] [b] pos) (!decide (q ∈ u)) :=
  PT.imp (pt_cmpR op_notIn_sign ha hb hm) fun σ H Q ⟨Bv, Bs, Hv, g, k⟩ => ⟨Bv, Bs, Hv, g, fun v1 H1 Hv1 g1 e1 r1 => ⟨Bv, Bs, Hv1, g1, fun v2 H2 Hv2 g2 e2 r2 => by
    exact ⟨q, tx u, rp_v r1, rp_v r2, _, rfl, k H2 Hv2 g2 (e1.trans e2)⟩⟩⟩
/-- x in a list of data -/
structure InD (d : D) (l : List D) (b : Bool) : Prop where
  ex : ∃ p ps, toPy d = some p ∧ toPyL l = some ps ∧ SeqAt.shaped p = true ∧ SeqAt.shaped (.list ps) = true ∧ (ps.any fun z => PyData.eqv z p) = b
theorem t_inD (B : Bx X P w K mg base k N nk) (ha : XE X ρ a d) (hb : XE X ρ b (.lst l)) (h : InD d l Bo) (hm : behindInMarks .In b = false := by rfl) : XT X ρ (.Compare a [.In] [b] pos) Bo :=
  PT.imp (pt_cmpR (op_inD (by have := B.room.un; omega)) ha hb hm) fun σ H Q ⟨Bv, Bs, Hv, g, k⟩ => ⟨Bv, Bs, Hv, g, fun v1 H1 Hv1 g1 e1 r1 => ⟨Bv, Bs, Hv1, g1, fun v2 H2 Hv2 g2 e2 r2 => by
    obtain ⟨p, ps, h1, h2, h3, h4, h5⟩ := h.ex
    refine ⟨p, ps, dp_of h1 (rp_mono (e2.vv.trans g2.vx.vh) r1), dp_of (d := .lst l) (p := .list ps) (by show (toPyL l).map _ = _; rw [h2]; rfl) (rp_mono g2.vx.vh r2), h3, h4, _, rfl, ?_⟩
    rw [h5]
    exact k H2 Hv2 g2 (e1.trans e2)⟩⟩
/-- e.split(one sign) -/
theorem x_split {q : Nat} {ap : Pos} (ha : XE X ρ e (.tx t)) (hb : XE X ρ b (.tx [q])) (h : t.length ≤ 1000000) (hq : q < 256) (hs : starEach [b] X.env = [(false, eval b X.env)] := by rfl) (hbase : attributeBase e "split" X.env (eval e X.env) = eval e X.env := by rfl) (hline : (ap.endLine == pos.line) = true := by rfl) :
    XO X ρ (.Call (.Attribute e "split" ap) [b] [] pos) (txs (TL.spl [q] 0 [] t)) :=
  PE.imp (pe_split ha hb hs hbase hline) fun σ H Q ⟨Bv, Bs, Hv, g, k⟩ => ⟨Bv, Bs, Hv, g, fun v1 H1 Hv1 g1 e1 r1 => ⟨⟨tx t, rp_v r1⟩, Bv, Bs, Hv1, g1, fun v2 H2 Hv2 g2 e2 r2 => by
    refine ⟨tx t, tx [q], rp_v r1, by rw [rp_v r2], rfl, by rw [tx_len, sizeLine_eq]; omega, fun r hr => ?_⟩
    have x := e1.trans e2
    refine k r _ _ _ (g2.newH hr) (x.trans (Vx.newH g2.vx.vh hr)) (Evl.fresh_back g2.vx.hh hr) (Evl.fresh_back g2.vx.vh hr) upd_same ?_ (g2.notOwn_new hr) (Evl.fresh_back x.hh hr)
    rw [show Txt.split (tx t) (tx [q]) = (TL.spl [q] 0 [] t).map tx from SX.split_S (by simp) (by simp [hq])]
    unfold txs
    rw [show (D.tx) = D.v ∘ (V.str ∘ tx) from rfl, ← List.map_map, ← List.map_map]
    exact rpL_vs'⟩⟩
/-- a text.join(a list of texts) -/
theorem x_join {ys : List (List Nat)} {ap : Pos} (ha : XE X ρ e (.tx t)) (hb : XQ X ρ b l) (hy : l = txs ys) (h : (ys.map (·.length)).sum + ys.length * t.length ≤ 1000000) (hs : starEach [b] X.env = [(false, eval b X.env)] := by rfl) (hbase : attributeBase e "join" X.env (eval e X.env) = eval e X.env := by rfl) (hline : (ap.endLine == pos.line) = true := by rfl) :
    XE X ρ (.Call (.Attribute e "join" ap) [b] [] pos) (.tx (TL.joinL t ys)) := by
  subst hy
  exact PE.imp (pe_join ha hb hs hbase hline) fun σ H Q ⟨Bv, Bs, Hv, g, k⟩ => ⟨Bv, Bs, Hv, g, fun v1 H1 Hv1 g1 e1 r1 => ⟨⟨tx t, rp_v r1⟩, Bv, Bs, Hv1, g1, fun q xs H2 Hv2 g2 e2 h3 h4 => by
    have e3 : xs = (ys.map tx).map V.str := rpL_vs (vs := (ys.map tx).map V.str) (by
      rw [List.map_map, List.map_map]
      exact h4)
    subst e3
    refine ⟨tx t, q, ys.map tx, rp_v r1, rfl, .inl h3, ?_, ?_⟩
    · rw [SX.lens, List.length_map, tx_len]
      omega
    · rw [show Txt.join (tx t) (ys.map tx) = tx (TL.joinL t ys) from SX.join_S t ys]
      exact k _ H2 Hv2 g2 (e1.trans e2) rp_v'⟩⟩
/-- int(text) -/
theorem x_intT {i : Int} (B : Bx X P w K mg base k N nk) (q : Nat) (hm : mg "int" = none) (ha : XE X ρ e (.tx t)) (hi : intText? (tx t) = some i) (hz : t.length ≤ 640) (hj : nk[q]? = some (("int" : Str), NameKind.globalImplicit) := by rfl) (he : starEach (e :: []) X.env = (false, eval e X.env) :: starEach [] X.env := by rfl) (hpl : (backTo pos (starEach [] X.env)).any (·.1) = false := by rfl) : XE X ρ (.Call (.Name "int" p) [e] [] pos) (.int i) :=
  xe_callT (us := [.str (tx t)]) call_int_str (B.gl hj) (B.none hm) (by decide +kernel) (xa_cons ha xa_nil he) (fun _ _ q => ⟨tx t, i, rfl, hi, by rw [tx_len]; exact hz, q⟩) (he := he) (hpl := hpl)
/-- list(range(i, j)) -/
theorem x_listR2 {i j : Int} {p2 pos2 : Pos} (B : Bx X P w K mg base k N nk) (j1 j2 : Nat) (hm : mg "list" = none) (hm2 : mg "range" = none) (ha : XE X ρ a (.int i)) (hb : XE X ρ b (.int j)) (hr : RgOk i j) (h1 : nk[j1]? = some (("list" : Str), NameKind.globalImplicit) := by rfl) (h2 : nk[j2]? = some (("range" : Str), NameKind.globalImplicit) := by rfl)
    (na : starEach [a, b] X.env = (false, eval a X.env) :: starEach [b] X.env := by rfl) (nb : starEach [b] X.env = (false, eval b X.env) :: starEach [] X.env := by rfl) (hp : (backTo pos2 (starEach [b] X.env)).any (·.1) = false := by rfl)
    (nc : starEach [.Call (.Name "range" p2) [a, b] [] pos2] X.env = (false, eval (.Call (.Name "range" p2) [a, b] [] pos2) X.env) :: starEach [] X.env := by rfl) : XO X ρ (.Call (.Name "list" p) [.Call (.Name "range" p2) [a, b] [] pos2] [] pos) (rgD i (j - i).toNat) :=
  PE.imp (pe_listRg B.calm (B.gl h1) (B.none hm) (prg_2 (B.gl h2) (B.none hm2) ha hb na nb hp) nc) fun σ H Q ⟨Bv, Bs, Hv, g, k⟩ => ⟨Bv, Bs, Hv, g, fun v H1 Hv1 g1 e1 r1 => ⟨Bv, Bs, Hv1, g1, fun v2 H2 Hv2 g2 e2 r2 => by
    refine ⟨i, j, rp_v r1, rp_v r2, hr, fun r hr => ?_⟩
    have x := e1.trans e2
    refine k r _ _ _ (g2.newH hr) (x.trans (Vx.newH g2.vx.vh hr)) (Evl.fresh_back g2.vx.hh hr) (Evl.fresh_back g2.vx.vh hr) upd_same ?_ (g2.notOwn_new hr) (Evl.fresh_back x.hh hr)
    unfold rgV rgD
    rw [show (fun q : Nat => D.int (i + (q : Int))) = D.v ∘ (fun q : Nat => V.int (i + (q : Int))) from rfl, ← List.map_map]
    exact rpL_vs'⟩⟩
/-- range(i, j, c) as an argument -/
def tLR3 (ta : TA) : TE := fun σ H Q => ta σ H fun vs H1 => ∃ (i j c : Int) (n : Nat), vs = [.int i, .int j, .int c] ∧ RgC i j c n ∧ n ≤ 1000000 ∧ ∀ q, H1 q = none → Q (.ref q) (upd H1 q (.lst ((List.range n).map fun q : Nat => V.int (i + (q : Int) * c))))
theorem pe_listR3 {ta : TA} {p2 pos2 : Pos} (hc : X.calm = true) (hg : Gl X "list") (hm : X.mg "list" = none) (hg2 : Gl X "range") (hm2 : X.mg "range" = none) (ha : PA X [a, b, c] ta)
    (hs : starEach [a, b, c] X.env = (false, eval a X.env) :: starEach [b, c] X.env := by rfl) (hpl : (backTo pos2 (starEach [b, c] X.env)).any (·.1) = false := by rfl)
    (na : starEach [.Call (.Name "range" p2) [a, b, c] [] pos2] X.env = (false, eval (.Call (.Name "range" p2) [a, b, c] [] pos2) X.env) :: starEach [] X.env := by rfl) :
    PE X (.Call (.Name "list" p) [.Call (.Name "range" p2) [a, b, c] [] pos2] [] pos) (tLR3 ta) := by
  refine ⟨fun pins s σ H Q I h => ?_⟩
  refine Call_ (ld_blt I hg hm boot_list (PyProof.Rows.callWith_type1 (args_cons ?_ na) na))
  refine Call_ (ld_blt I hg2 hm2 boot_range (PyProof.Rows.callWith_type1 (thn (ha.run pos2 pins s σ H _ I h) fun us s1 ⟨vs, H1, I1, r1, q1⟩ => ?_) hs hpl))
  obtain ⟨i, j, k, n, e, ⟨c0, c1, c2, c3⟩, hn, q⟩ := q1
  subst e
  cases r1 with
  | cons r rr =>
    cases rr with
    | cons r' rr =>
      cases rr with
      | cons r'' rr =>
        cases rr
        obtain ⟨t, rfl⟩ := r
        obtain ⟨t', rfl⟩ := r'
        obtain ⟨t'', rfl⟩ := r''
        refine call_range_3 c0 ?_ (.inl (PyProof.noPylong_small c1))
        have I2 : Inv X pins σ H1 { s1 with heap := s1.heap.push { cls := .type "range", data := .fields #[.int i t, .int j t', .int k t''] } } := I1.kept (t' := s1.toks) fun b o e => Heap.get?_push_of_some _ e
        refine args_nil ?_
        refine call_list_range (n := n) (I2.ok.hd hc) (IsRange.new ..) c2 c3 (by omega) fun h' tk acc c' hk e' hi => ?_
        have hl : acc.toList.length = n := by rw [Array.length_toList]; exact hi.1
        refine ⟨.ref _, upd H1 _ (.lst ((List.range n).map fun q : Nat => V.int (i + (q : Int) * k))), I2.laid hk (Nat.le_refl _) (show ObjOk X.prog X.w _ _ _ (.lst _) from ⟨?_, acc.toList, c', ?_, ?_⟩), rfl, q _ (I2.hok.fresh (Nat.le_refl _))⟩
        · rw [List.length_map, List.length_range, sizeLine_eq]
          omega
        · rw [← hl]
          refine vals_of_get acc.toList _ fun j u hj => ?_
          have hj' : acc[j]? = some u := by rw [← Array.getElem?_toList]; exact hj
          obtain ⟨t, e⟩ := hi.2 j u hj'
          exact ⟨t, e⟩
        · rw [Array.toArray_toList]
          exact e'
theorem x_listR3 {i j m : Int} {p2 pos2 : Pos} (B : Bx X P w K mg base k N nk) (j1 j2 : Nat) (hm : mg "list" = none) (hm2 : mg "range" = none) (ha : XE X ρ a (.int i)) (hb : XE X ρ b (.int j)) (hc : XE X ρ c (.int m)) (hr : (-(2 ^ 60) ≤ i ∧ i ≤ 2 ^ 60) ∧ (-(2 ^ 60) ≤ j ∧ j ≤ 2 ^ 60) ∧ (0 < m ∧ m < 1000000) ∧ j - i ≤ 1000000) (h1 : nk[j1]? = some (("list" : Str), NameKind.globalImplicit) := by rfl) (h2 : nk[j2]? = some (("range" : Str), NameKind.globalImplicit) := by rfl)
    (hs : starEach [a, b, c] X.env = (false, eval a X.env) :: starEach [b, c] X.env := by rfl) (hs2 : starEach [b, c] X.env = (false, eval b X.env) :: starEach [c] X.env := by rfl) (hs3 : starEach [c] X.env = (false, eval c X.env) :: starEach [] X.env := by rfl) (hpl : (backTo pos2 (starEach [b, c] X.env)).any (·.1) = false := by rfl)
    (na : starEach [.Call (.Name "range" p2) [a, b, c] [] pos2] X.env = (false, eval (.Call (.Name "range" p2) [a, b, c] [] pos2) X.env) :: starEach [] X.env := by rfl) :
    XO X ρ (.Call (.Name "list" p) [.Call (.Name "range" p2) [a, b, c] [] pos2] [] pos) (rcD i m (Builtin.Range.rangeSize i j m).toNat) :=
  PE.imp (pe_listR3 B.calm (B.gl h1) (B.none hm) (B.gl h2) (B.none hm2) (xa_cons ha (xa_cons hb (xa_cons hc xa_nil hs3) hs2) hs) hs hpl na) fun σ H Q ⟨Bv, Bs, Hv, g, k⟩ => ⟨Bv, Bs, Hv, g, fun vs H1 Hv1 g1 e1 r1 => by
    have := rpL_vs (vs := [.int i, .int j, .int m]) r1
    subst this
    obtain ⟨q1, q2, q3⟩ := rs_pos (i := i) (j := j) hr.2.2.1.1
    refine ⟨i, j, m, (Builtin.Range.rangeSize i j m).toNat, rfl, ⟨by omega, by omega, small_pos hr.1 hr.2.1 hr.2.2.1, by omega⟩, by omega, fun r hr => ?_⟩
    refine k r _ _ _ (g1.newH hr) (e1.trans (Vx.newH g1.vx.vh hr)) (Evl.fresh_back g1.vx.hh hr) (Evl.fresh_back g1.vx.vh hr) upd_same ?_ (g1.notOwn_new hr) (Evl.fresh_back e1.hh hr)
    unfold rcD
    rw [show (fun q : Nat => D.int (i + (q : Int) * m)) = D.v ∘ (fun q : Nat => V.int (i + (q : Int) * m)) from rfl, ← List.map_map]
    exact rpL_vs'⟩
/-- a for that may end its def -/
theorem x_forX {it : Expr} (B : Bx X P w K mg base k N nk) (S : Bs X W) (hi : XI X ρ tg it ds) (h : FoD X W tg body ds ρ o) (ho : Stop o) (hs : ∀ x, foldedSetIterable it X.env x = pure x := by intro _; rfl) : XB X W ρ (.For tg it body [] pos :: more) o :=
  xb_stop (xs_for S.po B.calm hi h hs) ho
theorem fo_stop {α : Type} (q : α → Bool) {F : α → D} (ho : Stop o) (n1 : ∀ ρ, o ≠ .bk ρ) (n2 : ∀ ρ, o ≠ .ct ρ) : ∀ {as : List α}, (∀ x ∈ as, ∃ ρ1, XG X ρ tg (F x) ρ1 ∧ (q x = true → XB X W ρ1 body o) ∧ (q x = false → XB X W ρ1 body (.nx ρ))) → as.any q = true → FoD X W tg body (as.map F) ρ o
  | [], _, e => by cases e
  | x :: as, h, e => by
    obtain ⟨ρ1, h1, h2, h3⟩ := h x List.mem_cons_self
    cases hq : q x with
    | true => exact .out h1 (h2 hq) ho n1 n2
    | false =>
      refine .next h1 (h3 hq) (.inl rfl) (fo_stop q ho n1 n2 (fun y hy => h y (List.mem_cons_of_mem _ hy)) ?_)
      rw [List.any_cons, hq] at e
      exact e
theorem fo_allM {α : Type} {F : α → D} {as : List α} (h : ∀ x ∈ as, ∃ ρ1, XG X ρ tg (F x) ρ1 ∧ XB X W ρ1 body (.nx ρ)) : FoD X W tg body (as.map F) ρ (.nx ρ) := fo_all fun d hd => by
  obtain ⟨x, hx, rfl⟩ := List.mem_map.mp hd
  exact h x hx
/-- a loop over told things that folds -/
theorem fo_foldM {α β : Type} {F : α → D} (R : β → List E) (f : β → α → β) : ∀ {as : List α} {y : β} (p : β → List α → Prop), p y as → (∀ y x r, p y (x :: r) → p (f y x) r ∧ ∃ ρ1, XG X (R y) tg (F x) ρ1 ∧ XB X W ρ1 body (.nx (R (f y x)))) → FoD X W tg body (as.map F) (R y) (.nx (R (as.foldl f y)))
  | [], _, _, _, _ => .nil
  | x :: as, y, p, h0, h => by
    obtain ⟨h1, ρ1, h2, h3⟩ := h y x as h0
    exact .next h2 h3 (.inl rfl) (fo_foldM R f p h1 h)
theorem lc_mapM {α : Type} {scope : Scope} {vs : List Nat} {elt : Expr} {F G : α → D} {as : List α} (h : ∀ x ∈ as, ∃ ρ1, Blk X scope (fun Y => XGw Y vs ρ tg (F x) ρ1) ∧ Blk X scope (fun Y => XE Y ρ1 elt (G x))) : LcD X scope vs tg [] elt ρ (as.map F) (as.map G) := lc_of h
end
section
variable {X : Cx} {W : WX} {ρ : List E} {tg a b : Expr} {body : List Stmt} {pos : Pos} {t u : List Nat}
/-- a test that is known, its way goes on -/
theorem xb_ifN {ρ1 : List E} {c : Expr} {sts other more : List Stmt} {o : Out} {Bo : Bool} (h : XT X ρ c Bo) (hB : Bo = true) (h2 : XB X W ρ sts (.nx ρ1)) (t : XB X W ρ1 more o) : XB X W ρ (.If c sts other pos :: more) o :=
  xb_ifm h (fun _ => h2) (fun q => by rw [hB] at q; cases q) t
theorem xb_elN {ρ1 : List E} {c : Expr} {sts other more : List Stmt} {o : Out} {Bo : Bool} (h : XT X ρ c Bo) (hB : Bo = false) (h2 : XB X W ρ other (.nx ρ1)) (t : XB X W ρ1 more o) : XB X W ρ (.If c sts other pos :: more) o :=
  xb_ifm h (fun q => by rw [hB] at q; cases q) (fun _ => h2) t
theorem x_neT (ha : XE X ρ a (.tx t)) (hb : XE X ρ b (.tx u)) : XE X ρ (.Compare a [.NotEq] [b] pos) (.bl (!decide (t = u))) := by
  have h := xe_cmp (pos := pos) ha hb (.neS _ _)
  rw [show decide (tx t = tx u) = decide (t = u) from decide_eq_decide.mpr tx_eq] at h
  exact h
theorem t_eqT (ha : XE X ρ a (.tx t)) (hb : XE X ρ b (.tx u)) : XT X ρ (.Compare a [.Eq] [b] pos) (decide (t = u)) := by
  have h := xt_cmpv (pos := pos) ha hb (.eqS _ _)
  rw [show decide (tx t = tx u) = decide (t = u) from decide_eq_decide.mpr tx_eq] at h
  exact h
theorem t_neT (ha : XE X ρ a (.tx t)) (hb : XE X ρ b (.tx u)) : XT X ρ (.Compare a [.NotEq] [b] pos) (!decide (t = u)) := by
  have h := xt_cmpv (pos := pos) ha hb (.neS _ _)
  rw [show decide (tx t = tx u) = decide (t = u) from decide_eq_decide.mpr tx_eq] at h
  exact h
end
theorem at_last {α : Type} {l : List α} {d : α} (h : l ≠ []) : atI l (-1) = some (l.getLastD d) := by
  obtain ⟨r, x, rfl⟩ : ∃ r x, l = r ++ [x] := ⟨l.dropLast, l.getLast h, (List.dropLast_concat_getLast h).symm⟩
  unfold atI ixN
  rw [if_neg (by omega), if_pos (by simp; omega), show ((-1 : Int) + ((r ++ [x]).length : Nat)).toNat = r.length by simp; omega]
  simp
theorem at_headF {α β : Type} {F : α → β} {l : List α} (d : α) (h : l ≠ []) : atI (l.map F) 0 = some (F (l.headD d)) := by
  cases l with
  | nil => exact absurd rfl h
  | cons x r => exact atI_nat (j := 0) rfl
theorem at_lastF {α β : Type} {F : α → β} {l : List α} (d : α) (h : l ≠ []) : atI (l.map F) (-1) = some (F (l.getLastD d)) := by
  obtain ⟨r, x, rfl⟩ : ∃ r x, l = r ++ [x] := ⟨l.dropLast, l.getLast h, (List.dropLast_concat_getLast h).symm⟩
  rw [at_last (d := F x) (by simp)]
  simp
/-- lists of lists of whole numbers -/
theorem toPyL_lists : ∀ (l : List (List Int)), toPyL (l.map fun e => .lst (e.map D.int)) = some (l.map fun e => .list (e.map PyData.int))
  | [] => rfl
  | e :: l => by
    rw [List.map_cons, List.map_cons]
    unfold toPyL
    rw [toPy_ints, toPyL_lists l]
theorem lay_lists : ∀ (l : List (List Int)), PyData.canLayAll0 (l.map fun e => .list (e.map PyData.int)) = true ∧ PyData.depthAll (l.map fun e => .list (e.map PyData.int)) ≤ 1
  | [] => ⟨rfl, by decide⟩
  | e :: l => by
    have h := lay_lists l
    have h2 := lay_ints e
    simp only [List.map_cons, PyData.canLayAll0, PyData.canLay0, PyData.depthAll, PyData.depth, h.1, h2.1, h2.2]
    exact ⟨by decide, by omega⟩
theorem shaped_lists (l : List (List Int)) : SeqAt.shaped (.list (l.map fun e => .list (e.map PyData.int))) = true := by
  have h := lay_lists l
  unfold SeqAt.shaped
  simp only [PyData.canLay0, PyData.depth, h.1]
  simp
  omega
theorem inD_lists (e : List Int) (l : List (List Int)) : InD (.lst (e.map D.int)) (l.map fun e => .lst (e.map D.int)) (l.any fun x => decide (x = e)) :=
  ⟨_, _, toPy_ints e, toPyL_lists l, shaped_ints e, shaped_lists l, by
    rw [List.any_map]
    congr 1
    funext x
    exact eqvAll_ints x e⟩
theorem txs_len (ts : List (List Nat)) : (txs ts).length = ts.length := by simp [txs]
theorem joinL_len : ∀ {ts : List (List Nat)} (s : Nat), ts ≠ [] → (TL.joinL [s] ts).length + 1 = (ts.map (·.length)).sum + ts.length
  | [], _, h => absurd rfl h
  | [t], _, _ => by simp [TL.joinL]
  | t :: u :: r, s, _ => by
    have h := joinL_len (ts := u :: r) s (by simp)
    show (t ++ ([s] ++ TL.joinL [s] (u :: r))).length + 1 = _
    simp only [List.length_append, List.map_cons, List.sum_cons, List.length_cons, List.length_nil] at *
    omega
theorem sum_le {c : Nat} : ∀ {ts : List (List Nat)}, (∀ t ∈ ts, t.length ≤ c) → (ts.map (·.length)).sum ≤ c * ts.length
  | [], _ => by simp
  | t :: r, h => by
    have h1 := h t List.mem_cons_self
    have h2 := sum_le fun x hx => h x (List.mem_cons_of_mem t hx)
    rw [List.map_cons, List.sum_cons, List.length_cons, Nat.mul_add]
    omega
/-! contracts of texts -/
def fT (f : List Nat → Ro) : List D → Ro
  | [.v (.str z)] => f z.cps.toList
  | _ => .bad
theorem inv_T {f : List Nat → Ro} {ds : List D} (h : fT f ds ≠ .bad) : ∃ l, ds = [.tx l] ∧ f l ≠ .bad := by
  unfold fT at h
  split at h
  · rename_i z
    exact ⟨z.cps.toList, by rw [D.tx, ← ofTx], h⟩
  · exact absurd rfl h
def fTII (f : List Nat → Int → Int → Ro) : List D → Ro
  | [.v (.str z), .v (.int i), .v (.int j)] => f z.cps.toList i j
  | _ => .bad
theorem inv_TII {f : List Nat → Int → Int → Ro} {ds : List D} (h : fTII f ds ≠ .bad) : ∃ l i j, ds = [.tx l, .int i, .int j] ∧ f l i j ≠ .bad := by
  unfold fTII at h
  split at h
  · rename_i z i j
    exact ⟨z.cps.toList, i, j, by rw [D.tx, ← ofTx], h⟩
  · exact absurd rfl h
def fTB (f : List Nat → Nat → Nat → Ro) : List D → Ro := fTII fun l i j => if (0 ≤ i ∧ i ≤ j ∧ j ≤ 99) ∧ l.length ≤ 1000 then f l i.toNat j.toNat else .bad
theorem inv_TB {f : List Nat → Nat → Nat → Ro} {ds : List D} (h : fTB f ds ≠ .bad) : ∃ (l : List Nat) (i j : Nat), ds = [.tx l, .int (i : Nat), .int (j : Nat)] ∧ (i ≤ j ∧ j ≤ 99) ∧ l.length ≤ 1000 ∧ fTB f ds = f l i j ∧ f l i j ≠ .bad := by
  obtain ⟨l, i, j, rfl, h2⟩ := inv_TII h
  clear h
  split at h2
  · rename_i q
    refine ⟨l, i.toNat, j.toNat, by rw [Int.toNat_of_nonneg (by omega), Int.toNat_of_nonneg (by omega)], by omega, q.2, if_pos q, h2⟩
  · exact absurd rfl h2
theorem fTB_val {f : List Nat → Nat → Nat → Ro} {l : List Nat} {i j : Nat} (h : (i ≤ j ∧ j ≤ 99) ∧ l.length ≤ 1000) : fTB f [.tx l, .int (i : Nat), .int (j : Nat)] = f l i j := by
  show (if (0 ≤ (i : Int) ∧ (i : Int) ≤ j ∧ (j : Int) ≤ 99) ∧ l.length ≤ 1000 then f l (i : Int).toNat (j : Int).toNat else .bad) = _
  rw [if_pos (by omega)]
  rfl
end PL
/-! exceptions, on: a clause without a name, what a suite asks -/
namespace PL
open PySem PySem.Spec L2
open Evl (Ex)
section
variable {X : Cx} {P : Program} {w : World} {K : PySem.W.Frag} {mg : Str → Option Value} {base : Heap} {k k' n : Nat} {N : List Str} {nk : List (Str × NameKind)} {W : WX}
variable {ρ ρ' ρ1 ρ2 : List E} {e a b c tg : Expr} {es : List Expr} {d f : D} {ds l m : List D} {pos p p' : Pos} {s : Str} {o o1 : Out} {kd : NameKind} {φ : List D → Ro} {body sts other more : List Stmt} {st : Stmt} {Bo : Bool} {C F : Addr}
theorem Fin.suite {K : PySem.W.Frag} {W W' : WX} {Bv Bs : Hp} {D : Ends} (h : Fin K W Bv Bs D o) (q : noExc o) : Fin K W' Bv Bs D o := h.noX q
end
end PL
/-! exceptions that bear a context, suites that raise, classes with an __init__ of their own, calls and fields in a suite -/
namespace PL
open PySem PySem.Spec L2
open Evl (Ex)
theorem lookup_atV {nk : List (Str × V)} (hn : (nk.map (·.1)).Nodup) : ∀ {j : Nat} {s : Str} {kd : V}, nk[j]? = some (s, kd) → nk.lookup s = some kd := by
  induction nk with
  | nil => intro j s kd h; simp at h
  | cons a r ih =>
    intro j s kd h
    rw [List.map_cons, List.nodup_cons] at hn
    cases j with
    | zero =>
      simp at h
      subst h
      simp [List.lookup]
    | succ j =>
      simp at h
      have hm : s ∈ r.map (·.1) := List.mem_map.mpr ⟨_, List.mem_of_getElem? h, rfl⟩
      have hne : (s == a.1) = false := by
        rw [beq_eq_false_iff_ne]
        intro z
        exact hn.1 (z ▸ hm)
      rw [show a = (a.1, a.2) from rfl, List.lookup_cons, hne]
      exact ih hn.2 h
/-! ### contracts of defs that may raise within a suite -/
structure FnL (P : Program) (w : World) (K : PySem.W.Frag) (mg : Str → Option Value) (base : Heap) (x : Str) (k n : Nat) (φ : List D → Ro) : Prop where
  ex : ∃ f fd ps, mg x = some (.ref f) ∧ FnOk P w K mg base (L2.CX P w) k f fd ps (spD K n φ) ∧ PySem.W.keepIn K (.ref f) = true ∧ Binds K fd ps []
def noX (φ : List D → Ro) : List D → Ro := fun ds => match φ ds with
  | .exc _ _ _ => .bad
  | r => r
def isX : Ro → Prop
  | .exc _ _ _ => False
  | _ => True
theorem noX_of {φ : List D → Ro} {ds : List D} {r : Ro} (h : φ ds = r) (q : isX r := by trivial) : noX φ ds = r := by
  unfold noX
  rw [h]
  cases r <;> first | rfl | exact q.elim
theorem finR_noX {K : PySem.W.Frag} {Hv H : Hp} {Q : VK} {E E' : XK} {φ : List D → Ro} {ds : List D} (h : FinR K Hv H Q E (noX φ ds)) : FinR K Hv H Q E' (φ ds) := by
  unfold noX at h
  generalize φ ds = r at h
  cases r with
  | exc => exact h.elim
  | _ => exact h
theorem FnL.n {P : Program} {w : World} {K : PySem.W.Frag} {mg : Str → Option Value} {base : Heap} {x : Str} {k n : Nat} {φ : List D → Ro} (F : FnL P w K mg base x k n φ) : FnC P w K mg base x k n (noX φ) := by
  obtain ⟨f, fd, ps, h1, h2, h3, h4⟩ := F.ex
  refine ⟨f, fd, ps, h1, ⟨fun vs H Q E ⟨Hv, ds, e, r, hl, q⟩ => h2.len vs H Q E0 ⟨Hv, ds, e, r, hl, finR_noX q⟩, fun A outer s H args us vs Q E hr he hb hv ⟨Hv, ds, e, r, hl, q⟩ => ?_⟩, h3, h4⟩
  refine codeAny_mono (h2.run A outer s H args us vs Q E0 hr he hb hv ⟨Hv, ds, e, r, hl, finR_noX q⟩) fun r s' hq => ?_
  cases r with
  | ok fl => cases fl <;> exact hq
  | error er =>
    obtain ⟨_, _, _, _, _, _, _, _, _, _, _, _, z⟩ := hq
    exact z.elim
/-- a body of such a def -/
structure Bl (X : Cx) (W : WX) : Prop where
  tk : L2.Takes X W
  pa : ∀ hd : Option Value, PassesOwnAt (model X.prog X.w) (X.A.mark hd) X.A X.env X.xe
section
variable {P : Program} {w : World} {K : PySem.W.Frag} {mg : Str → Option Value} {base : Heap}
theorem def_okL {x : Str} {st : Stmt} {ps : List Str} {N : List Str} {nk : List (Str × NameKind)} {k n : Nat} {φ : List D → Ro} (T : DefAt K mg x st ps) (S : FnScope N ps (defScope st)) (hnk : (defScope st).names = nk) (hnd : (nk.map (·.1)).Nodup) (hn : ps.length = n)
    (body : ∀ (X : Cx) (W : WX) (ds : List D), Bx X P w K mg base k N nk → Bs X W → Bl X W → ds.length = n → φ ds ≠ .bad → ∃ o, XB X W (startE N ds) (defBody st) o ∧ Leads o (φ ds)) : FnL P w K mg base x (k + 1) n φ := by
  obtain ⟨f, fd, F, hm, hb⟩ := T
  refine ⟨f, fd, ps, hm, F.okX S (fun vs H Q E ⟨Hv, ds, _, r, hl, _⟩ => by rw [rpL_len r, hl, hn]) (fun cdv A outer s H vs Q E hr ⟨Hv, ds, e, r, hl, q⟩ => ?_), F.kp, hb⟩
  have nb : φ ds ≠ .bad := fun z => by
    rw [z] at q
    exact q
  have tk : L2.Takes (cxOf (L2.CX P w) P w K mg base N x (defScope st) f cdv A outer s H E) (fun cls d _ H => E cls d H) := takes_of rfl rfl rfl rfl
  obtain ⟨o, ho, hL⟩ := body _ (fun cls d _ H => E cls d H) ds ⟨rfl, rfl, rfl, rfl, rfl, hr, rfl, rfl, fun j s kd hj => ⟨kd, by
    show (defScope st).names.lookup s = some kd
    rw [hnk]
    exact lookup_at hnd hj, .inl rfl⟩, S.nd⟩ ⟨passes_of rfl, takesN_of tk, fun _ => rfl, S.kind, rfl, rfl⟩ ⟨tk, L2H.passesAt_of rfl⟩ hl nb
  refine ⟨_, ho, Hv, H, Hv, sg_start e r, ?_⟩
  generalize φ ds = R at q hL
  cases hL with
  | nx ρ => exact fun σ H' Hv' g => q .non H' Hv' g.vx rp_v'
  | ret d => exact fun v H' Hv' x r => q v H' Hv' x r
  | fr l => exact fun p xs H' Hv' x h1 h2 h3 r => q p xs H' Hv' x h1 h2 h3 r
  | frv l => exact fun p xs H' Hv' x h1 h2 h3 r => q (.ref p) H' (upd Hv' p (.lst xs)) (x.freeze h2 h3 h1) (by
      unfold Rp
      exact ⟨p, xs, rfl, .inl (.inl upd_same), rpL_mono (Ex.new h2) r⟩)
  | exc C ns ds ρ => exact fun od σ H' Hv' g x => q od H' Hv' g.vx x
  | frP a b => exact fun p x y H' Hv' v h1 h2 h3 h4 => q p x y H' Hv' v h1 h2 h3 h4
end
section
variable {X : Cx} {P : Program} {w : World} {K : PySem.W.Frag} {mg : Str → Option Value} {base : Heap} {k k' n : Nat} {N : List Str} {nk : List (Str × NameKind)} {W : WX}
variable {ρ ρ' ρ1 ρ2 : List E} {e a b c tg : Expr} {es : List Expr} {d f : D} {ds l m : List D} {pos p p' : Pos} {s : Str} {o o1 : Out} {kd : NameKind} {φ : List D → Ro} {body sts other more : List Stmt} {st : Stmt} {Bo : Bool} {C F : Addr}
/-- a call that lets such an exception out -/
theorem x_callXL {ns : List Str} {xs : List D} (B : Bx X P w K mg base k N nk) (T : L2.Takes X W) (Fc : FnL P w K mg base s k' n φ) (j : Nat) (ha : XA X ρ (e :: es) ds) (hφ : φ ds = .exc C ns xs) (hn : ds.length = n := by rfl) (hj : nk[j]? = some (s, .globalImplicit) := by rfl) (hk : k' ≤ k := by decide) (hdb : (s == ("__debug__" : Str)) = false := by decide +kernel)
    (he : starEach (e :: es) X.env = (false, eval e X.env) :: starEach es X.env := by rfl) (hpl : (backTo pos (starEach es X.env)).any (·.1) = false := by rfl) : XX X W ρ (.Call (.Name s p) (e :: es) [] pos) C ns xs := by
  obtain ⟨f, fd, ps, hm, Fo, hkp, hb⟩ := Fc.ex
  have h1 := B.hP; have h2 := B.hw; have h3 := B.hK; have h4 := B.hm; have h5 := B.hb
  subst h1 h2 h3 h4 h5
  refine PE.imp (pe_callS Fo (B.room.mono hk) (B.gl hj) hm hkp hb (fun σ => L2.passAt T σ) ha hdb he hpl) fun σ H Q ⟨Bv, Bs, Hv, g, kk⟩ => ⟨Bv, Bs, Hv, g, fun vs H1 Hv1 g1 e1 r1 => ?_⟩
  refine ⟨Hv1, ds, g1.vx.vh, r1, hn, ?_⟩
  rw [hφ]
  exact fun od H' Hv' x r => kk od H' Hv' (g1.go x) r

/-! ### try .. except F as y, of an exception that may bear a context -/
theorem xs_tryAsL {x y : Str} {np pos' : Pos} {b₀ : Stmt} {suite : List Stmt} {ns : List Str} {xs : List D} {oS : Out} (B : Bx X P w K mg base k N nk) (S : Bs X W) (T : ExCls K mg x F) (i j j2 : Nat)
    (hb : ∀ (Y : Cx) (W' : WX), Bx Y P w K mg base k N nk → Bs Y W' → L2.Takes Y W' → Y.env = X.env → XB Y W' ρ body (.exc C ns xs ρ1)) (hex : PySem.W.exmOne K (.ref C) (.ref F) = some true)
    (hsu : ∀ (Y : Cx) (a : Addr) (od : Option Addr), Hx Y X K mg N nk C a od → XB Y W0 (ρ1.set i (.exc a od ns xs)) (b₀ :: suite) oS) (q : noExc oS)
    (hi : N[i]? = some y := by rfl) (hj2 : nk[j2]? = some (y, .local) := by rfl) (hj : nk[j]? = some (x, .globalImplicit) := by rfl) (hd : (x == ("__debug__" : Str)) = false := by decide +kernel) :
    XS X W ρ (.Try body [.ExceptHandler (some (.Name x np)) (some y) (b₀ :: suite) pos'] [] [] pos) (outAs i oS) := by
  refine PS.imp (ps_try_as (tb := fun W' => tS X.K W' ρ (.exc C ns xs ρ1)) (ts := fun a cls od => fun D σ H => ∃ t : TS, (∀ (oe : Obj) (pn : List (Addr × Obj)), Zc cls od oe → (∃ vs, oe.data = .fields vs) → PSs (X.suite a ((a, oe) :: pn)) (b₀ :: suite) t) ∧ t D σ H)
    S.st S.fr B.nd (B.at_ hi) (B.lookup_loc hj2) (c := .ref F) ⟨B.gl hj, hd, .inl (by rw [B.hm]; exact T.mg_)⟩ (takesW0) (fun W' pn xe tk po => hb _ W' (B.tr pn xe) (S.tr (takesN_of tk) po) tk rfl)
    fun a oe cls od pn hz hf => ⟨fun pins s σ H D I ⟨t, h, w⟩ => (h oe pn hz hf).run pins s σ H D I w⟩) fun D σ H ⟨Bv, Bs, Hv, g, k⟩ => ⟨Bv, Bs, Hv, g, fun od σ' H' Hv' g' x' => ?_⟩
  refine ⟨true, by rw [B.hK]; exact hex, fun _ a na => ?_, nofun⟩
  refine ⟨tS X.K W0 (ρ1.set i (.exc a od ns xs)) oS, fun oe pn hz hf => hsu _ a od ⟨⟨oe, pn, rfl, hz, hf⟩, B.hK, B.hm, B.hN, B.hs, B.nd⟩, Bv, Bs, Hv', g'.setAt rfl ⟨rfl, x'⟩, ?_⟩
  exact Fin.suiteAs i k q

/-! ### suites that raise -/
structure Hr (Y : Cx) (P : Program) (w : World) (K : PySem.W.Frag) (mg : Str → Option Value) (base : Heap) (k : Nat) (N : List Str) (nk : List (Str × NameKind)) (W : WX) : Prop where
  hP : Y.prog = P
  hw : Y.w = w
  hK : Y.K = K
  hm : Y.mg = mg
  hb : Y.base = base
  hN : Y.N = N
  hs : ∀ (j : Nat) (s : Str) (kd : NameKind), nk[j]? = some (s, kd) → ∃ kd', Y.env.scope.names.lookup s = some kd' ∧ (kd' = kd ∨ (kd = .free ∧ kd' = .cell))
  room : L2H.RoomH k Y.A
  hot : L2H.HotC Y
  tk : L2.Takes Y W
theorem Hr.gl {Y : Cx} (B : Hr Y P w K mg base k N nk W) {j : Nat} (hj : nk[j]? = some (s, .globalImplicit)) : Gl Y s := by
  obtain ⟨kd', h1, rfl | ⟨z, _⟩⟩ := B.hs j s _ hj
  · exact h1
  · cases z
theorem Hr.vis {Y : Cx} (B : Hr Y P w K mg base k N nk W) {j : Nat} (hj : nk[j]? = some (s, kd)) (h : isVis kd = true) : Vis Y.env.scope s := by
  obtain ⟨kd', h1, rfl | ⟨rfl, rfl⟩⟩ := B.hs j s kd hj
  · cases kd' with
    | «local» => exact .inl h1
    | cell => exact .inr (.inl h1)
    | free => exact .inr (.inr h1)
    | _ => cases h
  · exact .inr (.inl h1)
theorem xs_tryR {x : Str} {np pos' : Pos} {b₀ : Stmt} {suite : List Stmt} {ns : List Str} {xs : List D} {oS : Out} (B : Bx X P w K mg base k N nk) (S : Bs X W) (L : Bl X W) (T : ExCls K mg x F) (j : Nat)
    (hb : ∀ (Y : Cx) (W' : WX), Bx Y P w K mg base k N nk → Bs Y W' → Y.env = X.env → XB Y W' ρ body (.exc C ns xs ρ1)) (hex : PySem.W.exmOne K (.ref C) (.ref F) = some true)
    (hsu : ∀ (Y : Cx), Hr Y P w K mg base k N nk W → XB Y W ρ1 (b₀ :: suite) oS)
    (hj : nk[j]? = some (x, .globalImplicit) := by rfl) (hd : (x == ("__debug__" : Str)) = false := by decide +kernel) :
    XS X W ρ (.Try body [.ExceptHandler (some (.Name x np)) none (b₀ :: suite) pos'] [] [] pos) oS := by
  refine PS.imp (L2H.ps_try_onlyX (Wout := W) (tb := fun W' => tS X.K W' ρ (.exc C ns xs ρ1)) (ts := fun a cls od => fun D σ H => ∃ t : TS, (∀ (oe : Obj) (pn : List (Addr × Obj)), L2.Takes (L2H.suiteX X a ((a, oe) :: pn)) W → L2H.HotC (L2H.suiteX X a ((a, oe) :: pn)) → PSs (L2H.suiteX X a ((a, oe) :: pn)) (b₀ :: suite) t) ∧ t D σ H)
    S.st S.fr (c := .ref F) ⟨B.gl hj, hd, .inl (by rw [B.hm]; exact T.mg_)⟩ L.pa L.tk (fun W' pn xe tk _ po => hb _ W' (B.tr pn xe) (S.tr tk po) rfl)
    fun a oe cls od pn hz hf tk hot => ⟨fun pins s σ H D I ⟨t, h, w⟩ => (h oe pn tk hot).run pins s σ H D I w⟩) fun D σ H ⟨Bv, Bs, Hv, g, k⟩ => ⟨Bv, Bs, Hv, g, fun od σ' H' Hv' g' x' => ?_⟩
  refine ⟨true, by rw [B.hK]; exact hex, fun _ a na => ?_, nofun⟩
  exact ⟨tS X.K W ρ1 oS, fun oe pn tk hot => hsu _ ⟨B.hP, B.hw, B.hK, B.hm, B.hb, B.hN, B.hs, L2H.roomH_mark B.room _, hot, tk⟩, Bv, Bs, Hv', g', k⟩
/-- e.f of the caught one -/
theorem h_at {Y : Cx} {a : Addr} {od : Option Addr} {ns : List Str} {xs : List D} {y : Str} {py : Pos} {x nm : Str} (B : Hx Y X K mg N nk C a od) (T : ExCls K mg x C) (hno : PySem.W.findIn K (.ref C) nm = some none) (i j q : Nat) (hρ : ρ[i]? = some (.exc a od ns xs) := by rfl) (hq : xs[q]? = some d := by rfl) (hnm : ns[q]? = some nm := by rfl) (hnd : ns.Nodup := by decide +kernel)
    (hi : N[i]? = some y := by rfl) (hj : nk[j]? = some (y, kd) := by rfl) (hv : isVis kd = true := by rfl) (hd : (y == ("__debug__" : Str)) = false := by decide +kernel) (hcd : (y == ("__classdict__" : Str)) = false := by decide +kernel)
    (hbs : attributeBase (.Name y py) nm Y.env (eval (.Name y py) Y.env) = eval (.Name y py) Y.env := by rfl) :
    XE Y ρ (.Attribute (.Name y py) nm pos) d := by
  obtain ⟨oe, pn, rfl, hz, hf⟩ := B.hY
  have hK : X.K = K := B.hK
  subst hK
  refine PE.imp (pe_xf ⟨T.ga, T.gg, T.sub, T.hd⟩ hno hz hf (pe_var (i := i) (B.at_ hi) (B.vis hj hv) hd hcd) hbs) fun σ H Q ⟨Bv, Bs, Hv, g, kk⟩ => ?_
  obtain ⟨o', h1, h2, h3⟩ := g.at_ i _ hρ
  subst h2
  refine ⟨.ref a, h1, rfl, rfl, ?_⟩
  rcases h3 with ⟨z, z2, z3⟩ | ⟨dd, ys, e1, e2, e3, e4⟩
  · subst z
    cases hnm
  · obtain ⟨v, hv1, hv2⟩ := rpL_get e4 hq
    refine ⟨dd, ns.zip ys, v, e1, g.vx.vh _ _ e2, ?_, kk v H Hv g (Vx.refl g.vx.vh) hv2⟩
    have hz2 : (ns.zip ys)[q]? = some (nm, v) := by
      rw [List.getElem?_zip_eq_some]
      exact ⟨hnm, hv1⟩
    have hnd2 : ((ns.zip ys).map (·.1)).Nodup := by
      rw [List.map_fst_zip (by omega)]
      exact hnd
    exact lookup_atV hnd2 hz2
end
end PL
/-! classes of exceptions with an __init__ of their own: made, raised, in a suite too -/
namespace PL
open PySem PySem.Spec L2
open Evl (Ex)
/-- the class F, named s, has ValueError's own __init__ -/
structure VeC (K : PySem.W.Frag) (mg : Str → Option Value) (s : Str) (F : Addr) : Prop where
  mg_ : mg s = some (.ref F)
  rd : PySem.W.readsIn K F (.type "type") = true
  ga : PySem.W.specialIn K (.ref F) "__getattribute__" = some (some (.builtin "type.__getattribute__"))
  ini : PySem.W.findCls K (.ref F) (.type "type") "__init__" = some (.val (.builtin "ValueError.__init__"))
section
variable {X : Cx} {e : Expr} {es : List Expr} {ta : TA} {s : Str} {F : Addr} {p1 p2 pos : Pos}
theorem pe_veinitC {pl : Sem Bool} (VC : VeC X.K X.mg s F) (hg : Gl X s) (ha : PA X (e :: es) ta)
    (hc : eval (.Call (.Attribute (.Name s p1) "__init__" p2) (e :: es) [] pos) X.env = (do
      let ov ← eval (.Name s p1) X.env
      standAt p2.atName
      let (f, first) ← holding [ov] (getMethod ov "__init__" pl)
      callWith pos f first (backTo pos (starEach (e :: es) X.env)) (backToKw pos (keywordEach [] X.env))) := by rfl)
    (hdb : (s == ("__debug__" : Str)) = false := by decide +kernel) (he : starEach (e :: es) X.env = (false, eval e X.env) :: starEach es X.env := by rfl) (hpl : (backTo pos (starEach es X.env)).any (·.1) = false := by rfl) :
    PE X (.Call (.Attribute (.Name s p1) "__init__" p2) (e :: es) [] pos) (tVeI X.K ta) := by
  refine ⟨fun pins st σ H Q I w => PySem.W.methodCall_KW (ld_glob I hg VC.mg_ (PySem.W.method_cls I.kIn VC.ga (PySem.W.cls_value I.kIn VC.rd VC.ini (by decide +kernel) ?_)) hdb) hc⟩
  show wpAny (model X.prog X.w) X.A (callWith pos (Value.builtin "ValueError.__init__") [] (backTo pos (starEach (e :: es) X.env)) []) (EP X pins σ Q) X.xe _
  refine PyProof.Rows.callWith_method1 (thn (ha.run pos pins _ σ H _ (I.tok _) w) fun us t1 hh => ?_) he hpl
  obtain ⟨vs, H1, J, r1, a, C, ws, rfl, hl, O, hx, q⟩ := hh
  cases r1 with
  | @cons _ v0 _ vr r0 rr =>
    obtain rfl : v0 = Value.ref a := r0
    exact oinit_ok O J hx (by rw [← Paired.length rr, sizeLine_eq]; omega) fun t2 J2 => ⟨.non, H1, J2, rfl, q⟩
end
/-- the call F.__init__(self, text), as it is read -/
def IniCall (env : Env) (s t : Str) (j : Nat) (p1 p2 p3 p4 p5 : Pos) : Prop := ∃ pl : Sem Bool, eval (.Call (.Attribute (.Name s p1) "__init__" p2) [.Name "self" p3, .Constant (.str t) j p4] [] p5) env = (do
  let ov ← eval (.Name s p1) env
  standAt p2.atName
  let (f, first) ← holding [ov] (getMethod ov "__init__" pl)
  callWith p5 f first (backTo p5 (starEach [.Name "self" p3, .Constant (.str t) j p4] env)) (backToKw p5 (keywordEach [] env)))
/-- what such a class's __init__ does: one field -/
def spX (C : Addr) (f : Str) : Sp := fun vs H Q _ => ∃ a v, vs = [.ref a, v] ∧ H a = some (exo a C none) ∧ ∀ d, H d = none → d ≠ a → Q .non (upd (upd H d (exd d [(f, v)])) a (exo a C (some d)))
section
variable {X : Cx} {C F : Addr} {f prm s t : Str} {j : Nat} {p1 p2 p3 p4 p5 p6 p7 p8 p9 p10 : Pos}
theorem init_run (VC : VeC X.K X.mg s F) (O : OexC X.K C) (hno : PySem.W.findIn X.K (.ref C) f = some none) (hg : Gl X s) (n0 : X.N[0]? = some ("self" : Str)) (n1 : X.N[1]? = some prm) (v0 : Vis X.env.scope ("self" : Str)) (v1 : Vis X.env.scope prm) (hc : IniCall X.env s t j p1 p2 p3 p4 p5)
    (hp : (prm == ("__debug__" : Str)) = false) (hp2 : (prm == ("__classdict__" : Str)) = false) (hdb : (s == ("__debug__" : Str)) = false) :
    PSs X [.Expr (.Call (.Attribute (.Name s p1) "__init__" p2) [.Name "self" p3, .Constant (.str t) j p4] [] p5) p6, .Assign [.Attribute (.Name "self" p7) f p8] (.Name prm p9) p10]
      (fun D σ H => ∃ a v, σ = [some (V.ref a), some v] ∧ H a = some (exo a C none) ∧ ∀ d, H d = none → d ≠ a → D.nx σ (upd (upd H d (exd d [(f, v)])) a (exo a C (some d)))) := by
  obtain ⟨pl, hc⟩ := hc
  exact PSs.imp (pss_cons (ps_expr (pe_veinitC VC hg (pa_cons (pe_var (i := 0) n0 v0) (pa_cons pe_str pa_nil)) (hc := hc) (hdb := hdb))) (pss_cons (ps_ost (pe_var (i := 0) n0 v0) (pe_var (i := 1) n1 v1 hp hp2)) pss_nil)) fun D σ H ⟨a, v, e, ha, k⟩ => by
    subst e
    exact ⟨.ref a, rfl, a, C, [.str t], rfl, Nat.le_of_ble_eq_true rfl, O, ha, v, rfl, .ref a, rfl, a, C, rfl, O, hno, .inl ⟨ha, k⟩⟩
end
/-- the record at C is a class over ValueError with a dict -/
def oexIn (K : PySem.W.Frag) (C : Addr) : Bool := match K.lookup C with
  | some ob => match ob.cls, ob.data, ob.slots.toList with
    | .type "type", .cls c, [_, _, _, _, some (.builtin m), _] => (match c.mro with
      | .ref D :: bm => D == C && (m == "ValueError.__new__" && (c.hasDict && (!c.hasDel && PySem.HandSPX.refsVE bm)))
      | _ => false)
    | _, _, _ => false
  | none => false
theorem oex_mk {K : PySem.W.Frag} {mg : Str → Option Value} {s : Str} {C : Addr} (T : ExCls K mg s C) (h : oexIn K C = true) (sa : PySem.W.findIn K (.ref C) "__setattr__" = some (some (.builtin "object.__setattr__"))) : OexC K C := by
  refine ⟨?_, sa, T.sub, T.ty, T.kp⟩
  unfold oexIn at h
  cases e : K.lookup C with
  | none =>
    rw [e] at h
    cases h
  | some ob =>
    rw [e] at h
    obtain ⟨oc, od, dt, ⟨sl⟩⟩ := ob
    dsimp only at h
    split at h
    · split at h
      · rename_i cc _ _ _ _ mm _ _ D bm e2
        simp only [Bool.and_eq_true, beq_iff_eq, Bool.not_eq_true'] at h
        obtain ⟨h1, h2, h3, h4, h5⟩ := h
        obtain ⟨z1, z2, z3, z4, z5, z6, z7, z8, z9, za, zb⟩ := cc
        dsimp only at e2 h3 h4
        subst h1 h2 h3 h4 e2
        exact ⟨_, _, _, _, _, _, _, _, _, _, _, _, _, _, _, rfl, h5⟩
      · cases h
    · cases h
/-- a class of exceptions, named s, at C, that keeps one thing as its field f -/
structure ExI (P : Program) (w : World) (K : PySem.W.Frag) (mg : Str → Option Value) (base : Heap) (s : Str) (C : Addr) (f : Str) : Prop where
  cls : ExCls K mg s C
  oex : OexC K C
  no : PySem.W.findIn K (.ref C) f = some none
  ini : ∃ fI fd ps, PySem.W.findIn K (.ref C) "__init__" = some (some (.ref fI)) ∧ PySem.W.typeIn K (.ref fI) = some (.type "function") ∧ FnOk P w K mg base (L2N.CX P w) 1 fI fd ps (spX C f) ∧ L2H.FnH P w K mg base (L2N.CX P w) 1 fI fd ps (spX C f) ∧ Binds K fd ps []
theorem exI_mk {P : Program} {w : World} {K : PySem.W.Frag} {mg : Str → Option Value} {base : Heap} {s sF t prm f qual : Str} {C F fI : Addr} {st : Stmt} {fd : FuncData} {j : Nat} {p1 p2 p3 p4 p5 p6 p7 p8 p9 p10 : Pos}
    (T : ExCls K mg s C) (O : OexC K C) (VC : VeC K mg sF F) (hno : PySem.W.findIn K (.ref C) f = some none) (iC : PySem.W.findIn K (.ref C) "__init__" = some (some (.ref fI))) (tI : PySem.W.typeIn K (.ref fI) = some (.type "function"))
    (D : Fun K "__init__" qual st fI fd) (S : FnScope ["self", prm] ["self", prm] (defScope st)) (hb : defBody st = [.Expr (.Call (.Attribute (.Name sF p1) "__init__" p2) [.Name "self" p3, .Constant (.str t) j p4] [] p5) p6, .Assign [.Attribute (.Name "self" p7) f p8] (.Name prm p9) p10])
    (g0 : (defScope st).names.lookup sF = some .globalImplicit) (bi : Binds K fd ["self", prm] []) (hc : ∀ env, IniCall env sF t j p1 p2 p3 p4 p5) (hp : (prm == ("__debug__" : Str)) = false := by decide +kernel) (hp2 : (prm == ("__classdict__" : Str)) = false := by decide +kernel) (hdb : (sF == ("__debug__" : Str)) = false := by decide +kernel) : ExI P w K mg base s C f := by
  have v0 : Vis (defScope st) ("self" : Str) := by
    rcases S.par "self" (by simp) with z | z
    · exact .inl z
    · exact .inr (.inl z)
  have v1 : Vis (defScope st) prm := by
    rcases S.par prm (by simp) with z | z
    · exact .inl z
    · exact .inr (.inl z)
  have len : ∀ (vs : List V) (H : Hp) (Q : VK) (E : XK), spX C f vs H Q E → vs.length = (["self", prm] : List Str).length := fun vs H Q E ⟨a, v, e, _⟩ => by
    rw [e]
    rfl
  refine ⟨T, O, hno, fI, fd, _, iC, tI, okN D S len fun cdv A outer st' H vs Q E hr ⟨a, v, e, h1, h2⟩ => ?_, ?_, bi⟩
  · subst e
    rw [hb]
    exact ⟨_, init_run VC O hno g0 rfl rfl v0 v1 (hc _) hp hp2 hdb, a, v, rfl, h1, h2⟩
  · obtain ⟨oc, od, kV, doc, pm, an, cdv, ct, osl, rfl, lk, hcd⟩ := D.ex
    refine L2H.fn_ofH lk hcd S len fun A outer st' H vs Q E p hot hr ⟨a, v, e, h1, h2⟩ => ?_
    subst e
    rw [hb]
    exact ⟨_, init_run VC O hno g0 rfl rfl v0 v1 (hc _) hp hp2 hdb, a, v, rfl, h1, h2⟩
/-- C(e) where nothing is handled: an exception whose context is None -/
theorem pmk_oexN {X : Cx} {cxt : CXT} {x : Str} {e : Expr} {ta : TA} {C fI : Addr} {k : Nat} {fd : FuncData} {ps : List Str} {sp : Sp} {p pos : Pos} (O : OexC X.K C) (iC : PySem.W.findIn X.K (.ref C) "__init__" = some (some (.ref fI))) (tI : PySem.W.typeIn X.K (.ref fI) = some (.type "function"))
    (Fn : FnOk X.prog X.w X.K X.mg X.base cxt k fI fd ps sp) (room : Room (k + 1) X.A) (bi : Binds X.K fd ps []) (pass : Passes cxt X (fun _ _ _ => False)) (hg : Gl X x) (mgx : X.mg x = some (.ref C)) (ha : PA X [e] ta)
    (hdb : (x == ("__debug__" : Str)) = false := by decide) (he : starEach [e] X.env = [(false, eval e X.env)] := by rfl) : L2N.PMk X (.Call (.Name x p) [e] [] pos) (tMkO C sp [] ta) := by
  intro pins st0 σ H Q I h
  refine wpAny_Call_Name_kw (ld_glob I hg mgx (PySem.W.callWith_K (h₀ := X.base) I.ok.mod.kin O.kC (thn (ha.run pos pins st0 σ H _ I h) fun us st1 hh => ?_) he rfl) hdb)
  obtain ⟨vs, H1, J, rel, small, mk⟩ := hh
  refine ⟨J.kIn, ?_⟩
  obtain ⟨clsname, qn, nspace, bas, mro', sln, subc, abst, coll, ddd, z0, z1, z2, z3, z5, atC, bases⟩ := O.cls
  obtain ⟨h0, gens, drawn, toks, os⟩ := st1
  have hle : h0.objs.size ≤ h0.objs.size + 1 := Nat.le_succ _
  have call := mk (h0.objs.size + 1) (J.hok.fresh hle)
  have keep2 : ∀ b o, h0.get? b = some o → ((h0.push (PySem.W.kdv_tup us)).push (PySem.HandSPX.excO C h0.objs.size)).get? b = some o := fun b o z => Heap.get?_push_of_some _ (Heap.get?_push_of_some _ z)
  have J2 : Inv X pins σ (upd H1 (h0.objs.size + 1) (exo (h0.objs.size + 1) C none)) ⟨(h0.push (PySem.W.kdv_tup us)).push (PySem.HandSPX.excO C h0.objs.size), gens, drawn, toks, os⟩ := J.laid (t' := toks) keep2 hle (exo_ok (by heap_get))
  have rel2 : Vals (V.ref (h0.objs.size + 1) :: (vs ++ [])) (Value.ref (h0.objs.size + 1) :: (us ++ [])) := .cons rfl (rel.append .nil)
  have lenps : (Value.ref (h0.objs.size + 1) :: us ++ []).length = ps.length := (rel2.length.symm.trans (Fn.len _ _ _ _ call))
  have ulen : us.length ≤ sizeLine := by
    rw [← Paired.length rel, sizeLine_eq]
    omega
  show wpAny _ _ (PySem.call (.ref C) us) _ _ _
  have run := Fn.run (X.A.under (.builtin "type.__call__" ⟨.ref C :: us, []⟩)) X.stack _ _ ⟨Value.ref (h0.objs.size + 1) :: us, []⟩ _ _ _ (fun _ _ _ => False) (room.make C us []) (J2.env0.make C us []) (bi _ (Value.ref (h0.objs.size + 1) :: us) J2.kIn lenps) rel2 call
  refine wpAny_call (PySem.HandSPX.call_own PySem.F.excBase_ValueError (fun Y => PySem.HandSPX.refsVE_contains Y mro' bases) (J.kIn _ _ atC) (PySem.W.looks_findIn J.kIn iC) (fun self => PySem.W.bind_fn J.kIn self tI) ulen (codeAny_mono run fun r st2 out => ?_))
  match r, out with
  | .error er, out => exact pass pins σ _ _ er st2 J2 out
  | .ok .next, out => exact out.elim
  | .ok .brk, out => exact out.elim
  | .ok .cont, out => exact out.elim
  | .ok (.ret u), out =>
    obtain ⟨v, H2, os2, bare2, un2, hok2, rv, ev, d, fs, ea, ed, hd1, done⟩ := out
    subst ev
    obtain ⟨h2, gens2, drawn2, toks2, os'⟩ := st2
    obtain ⟨t0, G, JG, kG, ge, hoe, na⟩ := mk_end0 (d2 := drawn2) (t2 := toks2) J hle keep2 un2 hok2 os2 bare2 ea ed hd1
    exact ⟨rv, _, _, _, ⟨G, gens2, drawn2, toks2, os'⟩, _, .ref C, some d, rfl, JG, kG, ge, hoe, ⟨rfl, rfl, fun vs hv => by cases hv; rfl⟩, rfl, rfl, na, rfl, bare2, raises_own O.exC O.tyC, done⟩
theorem upd_xd {H1 : Hp} {a d : Addr} {C : Addr} {f : Str} {v : V} (ha : H1 a = none) (hd : d ≠ a) : upd (del (upd (upd (upd H1 a (exo a C none)) d (exd d [(f, v)])) a (exo a C (some d))) a) d (.xd [(f, v)]) = upd H1 d (.xd [(f, v)]) := by
  funext b
  by_cases h1 : b = d
  · rw [h1, upd_same, upd_same]
  · rw [upd_ne h1, upd_ne h1]
    by_cases h2 : b = a
    · rw [h2, del_same, ha]
    · rw [del_ne h2, upd_ne h2, upd_ne h1, upd_ne h2]
section
variable {X : Cx} {P : Program} {w : World} {K : PySem.W.Frag} {mg : Str → Option Value} {base : Heap} {k k' n : Nat} {N : List Str} {nk : List (Str × NameKind)} {W : WX}
variable {ρ ρ' ρ1 ρ2 : List E} {e a b c tg : Expr} {es : List Expr} {d f : D} {ds l m : List D} {pos p p' : Pos} {s : Str} {o o1 : Out} {kd : NameKind} {φ : List D → Ro} {body sts other more : List Stmt} {st : Stmt} {Bo : Bool} {C F : Addr}
theorem mkO_reads {fn : Str} {Q : XK} {σ : L2.St} {H1 Hv1 Bv Bs : Hp} {v : V} (g1 : Sg K Bv Bs Hv1 H1 ρ σ) (r1 : Rp K Hv1 d v) (kk : ∀ od H' Hv', Sg K Bv Bs Hv' H' ρ σ → ExAt K Hv' [fn] [d] od → Q (.ref C) od H') :
    [v].length ≤ 1000 ∧ ∀ a, H1 a = none → spX C fn (.ref a :: ([v] ++ [])) (upd H1 a (exo a C none)) (fun u H2 => u = .non ∧ ∃ (d : Addr) (fs : List (Str × V)), H2 a = some (exo a C (some d)) ∧ H2 d = some (exd d fs) ∧ H1 d = none ∧ Q (.ref C) (some d) (upd (del H2 a) d (.xd fs))) (fun _ _ _ => False) := by
  refine ⟨Nat.le_of_ble_eq_true rfl, fun a ha => ⟨a, v, rfl, upd_same, fun q hq hne => ⟨rfl, q, [(fn, v)], upd_same, by rw [upd_ne hne, upd_same], ?_, ?_⟩⟩⟩
  · rwa [upd_ne hne] at hq
  · rw [upd_ne hne] at hq
    rw [upd_xd ha hne]
    exact kk (some q) _ (upd Hv1 q (.xd [(fn, v)])) (g1.newV hq) (.inr ⟨q, [v], rfl, upd_same, rfl, rpL_cons (rp_mono (Ex.new (Evl.fresh_back g1.vx.vh hq)) r1) rpL_nil⟩)
/-- raise X(e), X with a field -/
theorem x_raiseI {fn : Str} {p3 : Pos} (B : Bx X P w K mg base k N nk) (S : Bs X W) (T : ExI P w K mg base s C fn) (j : Nat) (h : XE X ρ e d) (hk : 2 ≤ k := by decide) (hj : nk[j]? = some (s, .globalImplicit) := by rfl) (hd : (s == ("__debug__" : Str)) = false := by decide +kernel) (he : starEach [e] X.env = [(false, eval e X.env)] := by rfl) :
    XB X W ρ (.Raise (some (.Call (.Name s p) [e] [] p3)) none pos :: more) (.exc C [fn] [d] ρ) := by
  have h1 := B.hP; have h2 := B.hw; have h3 := B.hK; have h4 := B.hm; have h5 := B.hb
  subst h1 h2 h3 h4 h5
  obtain ⟨fI, fd, ps, iC, tI, F1, _, bi⟩ := T.ini
  refine xb_stop (PS.imp (L2N.ps_raise B.calm S.tk (pmk_oexN T.oex iC tI F1 (B.room.mono hk) bi passN (B.gl hj) T.cls.mg_ (xa_cons h xa_nil he) hd he)) fun D σ H ⟨Bv, Bs, Hv, g, kk⟩ => ?_) trivial
  refine ⟨Bv, Bs, Hv, g, fun vs H1 Hv1 g1 e1 r1 => ?_⟩
  obtain ⟨v, r, rfl, r2, r3⟩ := rpL_cons_inv r1
  have := rpL_nil_inv r3
  subst this
  exact mkO_reads (Q := fun c od H' => W c od σ H') g1 r2 fun od H' Hv' g' x => kk od σ H' Hv' g' x
/-- .. in a suite -/
theorem x_raiseSI {fn : Str} {p3 : Pos} {Y : Cx} (B : Hr Y P w K mg base k N nk W) (T : ExI P w K mg base s C fn) (j : Nat) (h : XE Y ρ e d) (hk : 2 ≤ k := by decide) (hj : nk[j]? = some (s, .globalImplicit) := by rfl) (hd : (s == ("__debug__" : Str)) = false := by decide +kernel) (he : starEach [e] Y.env = [(false, eval e Y.env)] := by rfl) :
    XB Y W ρ (.Raise (some (.Call (.Name s p) [e] [] p3)) none pos :: more) (.exc C [fn] [d] ρ) := by
  have h1 := B.hP; have h2 := B.hw; have h3 := B.hK; have h4 := B.hm; have h5 := B.hb
  subst h1 h2 h3 h4 h5
  obtain ⟨fI, fd, ps, iC, tI, _, F1, bi⟩ := T.ini
  refine xb_stop (PS.imp (L2H.ps_raiseH B.hot B.tk (L2H.pmk5_oexH T.oex iC tI F1 (B.room.mono hk) B.hot bi passN (B.gl hj) T.cls.mg_ (xa_cons h xa_nil he) hd he rfl).pmk) fun D σ H ⟨Bv, Bs, Hv, g, kk⟩ => ?_) trivial
  refine ⟨Bv, Bs, Hv, g, fun vs H1 Hv1 g1 e1 r1 => ?_⟩
  obtain ⟨v, r, rfl, r2, r3⟩ := rpL_cons_inv r1
  have := rpL_nil_inv r3
  subst this
  exact mkO_reads (Q := fun c od H' => W c od σ H') g1 r2 fun od H' Hv' g' x => kk od σ H' Hv' g' x
end
end PL
/-! defs that are called where an exception is handled, whatever it is -/
namespace PL
open PySem PySem.Spec L2
open Evl (Ex)
/-- a def's promise there: the object at p.1 stands as p.2 -/
structure FnP (P : Program) (w : World) (K : PySem.W.Frag) (mg : Str → Option Value) (base : Heap) (k : Nat) (f : Addr) (fd : FuncData) (ps : List Str) (sp : Addr × Obj → List V → Hp → VK → Prop) : Prop where
  len : ∀ p vs H Q, sp p vs H Q → vs.length = ps.length
  run : ∀ (A : Around) (outer : List Env) (s : Shared) (H : Hp) (args : Args) (us : List Value) (vs : List V) (Q : VK) (p : Addr × Obj), L2H.RoomH k A → L2H.PinOk outer H s p → Env0 P w K mg base A outer s H → BindsTo s fd args (ps.zip us) → Vals vs us → sp p vs H Q →
    codeAny (model P w) A (.call (.ref f) args) (CR (L2N.CX P w) outer P w H s Q E0) s
/-- the context of its body -/
abbrev cxP (P : Program) (w : World) (K : PySem.W.Frag) (mg : Str → Option Value) (base : Heap) (N : List Str) (qual : Str) (scope : Scope) (f : Addr) (cd : Value) (A : Around) (outer : List Env) (s : Shared) (H : Hp) (p : Addr × Obj) : Cx := L2H.cxH (L2N.CX P w) P w K mg base N qual scope f cd A outer s H E0 p
open PyProof.Rows in
theorem fnP_mk {P : Program} {w : World} {K : PySem.W.Frag} {mg : Str → Option Value} {base : Heap} {x qual : Str} {st : Stmt} {f : Addr} {fd : FuncData} {N ps : List Str} {k : Nat} {sp : Addr × Obj → List V → Hp → VK → Prop} (F : Fun K x qual st f fd) (S : FnScope N ps (defScope st)) (len : ∀ p vs H Q, sp p vs H Q → vs.length = ps.length)
    (body : ∀ (cdv : Value) (A : Around) (outer : List Env) (s : Shared) (H : Hp) (vs : List V) (Q : VK) (p : Addr × Obj), L2H.RoomH k (A.deeper (envOfC qual (defScope st) s.heap.objs.size f cdv)) → sp p vs H Q →
      ∃ t, PSs (cxP P w K mg base N qual (defScope st) f cdv A outer s H p) (defBody st) t ∧ t { nx := fun _ H' => Q .non H', rt := Q } (start N vs) H) : FnP P w K mg base (k + 1) f fd ps sp := by
  obtain ⟨oc, od, kV, doc, pm, an, cdv, ct, osl, rfl, lk, hcd⟩ := F.ex
  refine ⟨len, fun A outer s H args us vs Q p room pin e0 bi rel q => ?_⟩
  have k0 : K.In s.heap := e0.mod.kin.keeps fun b o z => (e0.bs b o z).1
  have nl : s.heap.NoLimit := e0.mod.nolimit.keeps fun b o z => (e0.bs b o z).1
  have kinds : ∀ y ∈ ps.zip us, (defScope st).names.lookup y.1 = some .local ∨ ((defScope st).names.lookup y.1 = some .cell ∧ ((cellsFrom (s.heap.objs.size + 1) (defScope st).names []).lookup y.1).isSome = true) := by
    intro y hy
    obtain ⟨nm, u⟩ := y
    rcases S.par nm (List.of_mem_zip hy).1 with z | z
    · exact .inl z
    · exact .inr ⟨z, PySem.W.cellsFrom_some _ _ _ (.inl z)⟩
  obtain ⟨t, ht, hq⟩ := body cdv A outer s H vs Q p (room.deeper _) q
  refine codeAny_call_function room.depth (k0 _ _ lk) rfl S.co S.gen rfl (PySem.W.codeRec_of k0 hcd) (bi _ _ _ _ (wpAny_newFunctionEnv_cells S.kind kinds fun env ev st1 inc => ?_))
  subst ev
  refine ⟨nl.keeps inc.toInCall.keep, codeAny_func ?_⟩
  have J := L2H.inv_startH (CX := L2N.CX P w) (E := E0) S pin e0 (len _ _ _ _ q) rel inc
  refine wpAny_mono (ht.run [] st1 (start N vs) H _ J hq) (fun fl st2 out => ?_) fun er st2 out => out
  match fl, out with
  | .ret u, ⟨v, σ', H', J2, rv, z⟩ => exact ⟨v, H', J2.os, J2.bare, J2.base, J2.hok, rv, z⟩
  | .next, ⟨σ', H', J2, z⟩ => exact ⟨V.non, H', J2.os, J2.bare, J2.base, J2.hok, rfl, z⟩
  | .brk, ⟨_, _, _, z⟩ => exact z.elim
  | .cont, ⟨_, _, _, z⟩ => exact z.elim
theorem pe_callP {Y : Cx} {k : Nat} {f : Addr} {fd : FuncData} {ps : List Str} {sp : Addr × Obj → List V → Hp → VK → Prop} {x : Str} {e : Expr} {es : List Expr} {t : TA} {q pos : Pos} {p : Addr × Obj} (F : FnP Y.prog Y.w Y.K Y.mg Y.base k f fd ps sp) (room : L2H.RoomH k Y.A) (hp : p ∈ Y.pn) (hg : Gl Y x) (mgx : Y.mg x = some (.ref f)) (kp : PySem.W.keepIn Y.K (.ref f) = true) (bi : Binds Y.K fd ps [])
    (ha : PA Y (e :: es) t) (hdb : (x == ("__debug__" : Str)) = false := by decide) (he : starEach (e :: es) Y.env = (false, eval e Y.env) :: starEach es Y.env := by rfl) (hpl : (backTo pos (starEach es Y.env)).any (·.1) = false := by rfl) :
    PE Y (.Call (.Name x q) (e :: es) [] pos) (fun σ H Q => t σ H fun vs H1 => sp p vs H1 Q) := by
  refine ⟨fun pins s σ H Q I h => wpAny_Call_Name_kw (ld_glob I hg mgx (PySem.W.callWith_K (h₀ := Y.base) I.ok.mod.kin kp (thn (ha.run pos pins s σ H _ I h) fun us s1 hh => ?_) he hpl) hdb)⟩
  obtain ⟨vs, H1, J, rel, z⟩ := hh
  refine ⟨J.kIn, ?_⟩
  have P1 := J.pin p (List.mem_append_left _ hp)
  have pin : L2H.PinOk Y.stack H1 s1 p := ⟨P1.1, P1.2.1, fun hm => (List.mem_cons.mp (J.stkSub p.1 hm)).elim P1.2.2.1 P1.2.2.2.1, P1.2.2.2.2⟩
  have b := bi s1 us J.kIn (by rw [List.append_nil, ← rel.length]; exact F.len _ _ _ _ z)
  rw [List.append_nil] at b
  refine wpAny_call (codeAny_mono (F.run Y.A Y.stack s1 H1 ⟨us, []⟩ us vs Q p room pin J.env0 b rel z) fun r s2 out => ?_)
  match r, out with
  | .ok (.ret u), out => exact J.after out
  | .ok .next, out => exact out.elim
  | .ok .brk, out => exact out.elim
  | .ok .cont, out => exact out.elim
  | .error er, ⟨_, _, _, _, _, _, _, _, _, _, _, _, z⟩ => exact z.elim
/-- a contract in terms of data -/
structure FnQ (P : Program) (w : World) (K : PySem.W.Frag) (mg : Str → Option Value) (base : Heap) (x : Str) (k n : Nat) (φ : List D → Ro) : Prop where
  ex : ∃ f fd ps, mg x = some (.ref f) ∧ FnP P w K mg base k f fd ps (fun _ vs H Q => spD K n φ vs H Q E0) ∧ PySem.W.keepIn K (.ref f) = true ∧ Binds K fd ps []
/-- what stands around such a body, or a suite -/
structure Hq (Y : Cx) (P : Program) (w : World) (K : PySem.W.Frag) (mg : Str → Option Value) (base : Heap) (k : Nat) (N : List Str) (nk : List (Str × NameKind)) : Prop where
  hP : Y.prog = P
  hw : Y.w = w
  hK : Y.K = K
  hm : Y.mg = mg
  hb : Y.base = base
  hN : Y.N = N
  hs : ∀ (j : Nat) (s : Str) (kd : NameKind), nk[j]? = some (s, kd) → ∃ kd', Y.env.scope.names.lookup s = some kd' ∧ (kd' = kd ∨ (kd = .free ∧ kd' = .cell))
  room : L2H.RoomH k Y.A
  pin : ∃ p, p ∈ Y.pn
section
variable {X Y : Cx} {P : Program} {w : World} {K : PySem.W.Frag} {mg : Str → Option Value} {base : Heap} {k k' n : Nat} {N : List Str} {nk : List (Str × NameKind)} {W : WX}
variable {ρ ρ' ρ1 ρ2 : List E} {e a b c tg : Expr} {es : List Expr} {d f : D} {ds l m : List D} {pos p p' : Pos} {s : Str} {o o1 : Out} {kd : NameKind} {φ : List D → Ro} {body sts other more : List Stmt} {st : Stmt} {Bo : Bool} {C F : Addr}
theorem Hx.q {aa : Addr} {od : Option Addr} (H : Hx Y X K mg N nk C aa od) (B : Bx X P w K mg base k N nk) : Hq Y P w K mg base k N nk := by
  obtain ⟨oe, pn, rfl, hz, hf⟩ := H.hY
  exact ⟨B.hP, B.hw, H.hK, H.hm, B.hb, H.hN, H.hs, L2H.roomH_mark B.room _, _, List.mem_cons_self⟩
theorem Hr.q (H : Hr Y P w K mg base k N nk W) : Hq Y P w K mg base k N nk := by
  obtain ⟨p, _, hp⟩ := H.hot
  exact ⟨H.hP, H.hw, H.hK, H.hm, H.hb, H.hN, H.hs, H.room, p, hp⟩
theorem Hq.gl (B : Hq Y P w K mg base k N nk) {j : Nat} (hj : nk[j]? = some (s, .globalImplicit)) : Gl Y s := by
  obtain ⟨kd', h1, rfl | ⟨z, _⟩⟩ := B.hs j s _ hj
  · exact h1
  · cases z
theorem Hq.vis (B : Hq Y P w K mg base k N nk) {j : Nat} (hj : nk[j]? = some (s, kd)) (h : isVis kd = true) : Vis Y.env.scope s := by
  obtain ⟨kd', h1, rfl | ⟨rfl, rfl⟩⟩ := B.hs j s kd hj
  · cases kd' with
    | «local» => exact .inl h1
    | cell => exact .inr (.inl h1)
    | free => exact .inr (.inr h1)
    | _ => cases h
  · exact .inr (.inl h1)
theorem Hq.none (B : Hq Y P w K mg base k N nk) (h : mg s = none) : Y.mg s = none := by
  rw [B.hm]
  exact h
theorem q_var (B : Hq Y P w K mg base k N nk) (i j : Nat) (hr : ρ[i]? = some (.val d) := by rfl) (hi : N[i]? = some s := by rfl) (hj : nk[j]? = some (s, kd) := by rfl) (hv : isVis kd = true := by rfl) (hd : (s == ("__debug__" : Str)) = false := by decide +kernel) (hcd : (s == ("__classdict__" : Str)) = false := by decide +kernel) : XE Y ρ (.Name s pos) d :=
  xe_name i (by rw [B.hN]; exact hi) (B.vis hj hv) hr hd hcd
theorem q_bcl {id : String} (B : Hq Y P w K mg base k N nk) (j : Nat) (hm : mg s = none) (hv : bootBuiltins s = some (.type id)) (hj : nk[j]? = some (s, .globalImplicit) := by rfl) (hn : s ≠ "__name__" := by decide +kernel) (hd : (s == ("__debug__" : Str)) = false := by decide +kernel) : XE Y ρ (.Name s pos) (.v (.ty id)) :=
  xe_of (pe_bltn (B.gl hj) (B.none hm) hv (show RelV (.ty id) (.type id) from rfl) hn hd) fun _ _ _ q => q
/-- isinstance of data -/
theorem q_isi {u t : Value} {c : V} {g : Str} {r : Bool} {q : D} {p2 : Pos} (B : Hq Y P w K mg base k N nk) (j : Nat) (hm : mg "isinstance" = none) (ha : XE Y ρ e q) (hc : XE Y ρ (.Name g p2) (.v c)) (hcl : ClsV c u) (hk : Kd K q t) (hr : PySem.W.kitOne K t u = some r)
    (hj : nk[j]? = some (("isinstance" : Str), NameKind.globalImplicit) := by rfl)
    (he : starEach [e, .Name g p2] Y.env = (false, eval e Y.env) :: starEach [.Name g p2] Y.env := by rfl) (he2 : starEach [.Name g p2] Y.env = (false, eval (.Name g p2) Y.env) :: starEach [] Y.env := by rfl) (hpl : (backTo pos (starEach [.Name g p2] Y.env)).any (·.1) = false := by rfl) :
    XE Y ρ (.Call (.Name "isinstance" p) [e, .Name g p2] [] pos) (.bl r) :=
  PE.imp (pe_callB call_isi (B.gl hj) (B.none hm) PyProof.Rows.boot_isinstance (xa_cons ha (xa_cons hc xa_nil he2) he) (he := he) (hpl := hpl)) fun σ H Q ⟨Bv, Bs, Hv, g, kk⟩ => ⟨Bv, Bs, Hv, g, fun vs H1 Hv1 g1 e1 r1 => by
    obtain ⟨x, r2, rfl, h1, h2⟩ := rpL_cons_inv r1
    obtain ⟨y, r3, rfl, h3, h4⟩ := rpL_cons_inv h2
    rw [rpL_nil_inv h4, rp_v h3]
    refine ⟨x, c, t, u, r, rfl, hcl, ?_, ?_, kk _ H1 Hv1 g1 e1 rp_v'⟩
    · have := hk.ty (H := H1) (rp_mono g1.vx.vh (by rw [B.hK] at h1; exact h1))
      rw [B.hK]
      exact this
    · rw [B.hK]
      exact hr⟩
/-- a call there -/
theorem q_call (B : Hq Y P w K mg base k N nk) (Fc : FnQ P w K mg base s k' n φ) (j : Nat) (ha : XA Y ρ (e :: es) ds) (hφ : φ ds = .val d) (hn : ds.length = n := by rfl) (hj : nk[j]? = some (s, .globalImplicit) := by rfl) (hk : k' ≤ k := by decide) (hdb : (s == ("__debug__" : Str)) = false := by decide +kernel)
    (he : starEach (e :: es) Y.env = (false, eval e Y.env) :: starEach es Y.env := by rfl) (hpl : (backTo pos (starEach es Y.env)).any (·.1) = false := by rfl) : XE Y ρ (.Call (.Name s p) (e :: es) [] pos) d := by
  obtain ⟨f, fd, ps, hm, Fo, hkp, hb⟩ := Fc.ex
  have h1 := B.hP; have h2 := B.hw; have h3 := B.hK; have h4 := B.hm; have h5 := B.hb
  subst h1 h2 h3 h4 h5
  obtain ⟨pp, hpp⟩ := B.pin
  refine PE.imp (pe_callP Fo (B.room.mono hk) hpp (B.gl hj) hm hkp hb ha hdb he hpl) fun σ H Q ⟨Bv, Bs, Hv, g, kk⟩ => ⟨Bv, Bs, Hv, g, fun vs H1 Hv1 g1 e1 r1 => ?_⟩
  refine ⟨Hv1, ds, g1.vx.vh, r1, hn, ?_⟩
  rw [hφ]
  exact fun v H' Hv' x r => kk v H' Hv' (g1.go x) (e1.trans x) r
/-- a def of one return's expression -/
theorem def_okQ {x : Str} {st : Stmt} {ps : List Str} {N : List Str} {nk : List (Str × NameKind)} {k n : Nat} {φ : List D → Ro} {e : Expr} {pos : Pos} (T : DefAt K mg x st ps) (S : FnScope N ps (defScope st)) (hnk : (defScope st).names = nk) (hnd : (nk.map (·.1)).Nodup) (hn : ps.length = n) (hbd : defBody st = [.Return (some e) pos])
    (body : ∀ (Y : Cx) (ds : List D), Hq Y P w K mg base k N nk → ds.length = n → φ ds ≠ .bad → ∃ d, XE Y (startE N ds) e d ∧ φ ds = .val d) : FnQ P w K mg base x (k + 1) n φ := by
  obtain ⟨f, fd, F, hm, hb⟩ := T
  refine ⟨f, fd, ps, hm, fnP_mk F S (fun _ vs H Q ⟨Hv, ds, _, r, hl, _⟩ => by rw [rpL_len r, hl, hn]) (fun cdv A outer s H vs Q p hr ⟨Hv, ds, ex, r, hl, q⟩ => ?_), F.kp, hb⟩
  have nb : φ ds ≠ .bad := fun z => by
    rw [z] at q
    exact q
  obtain ⟨d, h1, h2⟩ := body (cxP P w K mg base N x (defScope st) f cdv A outer s H p) ds ⟨rfl, rfl, rfl, rfl, rfl, rfl, fun j s kd hj => ⟨kd, by
    show (defScope st).names.lookup s = some kd
    rw [hnk]
    exact lookup_at hnd hj, .inl rfl⟩, hr, p, List.mem_cons_self⟩ hl nb
  rw [hbd]
  refine ⟨_, pss_one (ps_ret h1), Hv, H, Hv, sg_start ex r, fun v H' Hv' g' e1 r1 => ?_⟩
  rw [h2] at q
  exact q v H' Hv' g'.vx r1
/-- is_whole, asked where an exception is handled -/
def phi_wholeQ : List D → Ro
  | [.v (.int _)] => .val (.bl true)
  | _ => .bad
theorem whole_okQ {x prm : Str} {st : Stmt} {p1 p2 p3 p4 p5 p6 p7 p8 p9 p10 p11 : Pos} (T : DefAt K mg x st [prm]) (S : FnScope [prm] [prm] (defScope st)) (hnk : (defScope st).names = [(prm, .local), ("isinstance", .globalImplicit), ("int", .globalImplicit), ("bool", .globalImplicit)]) (hnd : (([(prm, .local), ("isinstance", .globalImplicit), ("int", .globalImplicit), ("bool", .globalImplicit)] : List (Str × NameKind)).map (·.1)).Nodup)
    (hbd : defBody st = [.Return (some (.BoolOp .And [.Call (.Name "isinstance" p1) [.Name prm p2, .Name "int" p3] [] p4, .UnaryOp .Not (.Call (.Name "isinstance" p5) [.Name prm p6, .Name "bool" p7] [] p8) p9] p10)) p11]) (m1 : mg "isinstance" = none) (m2 : mg "int" = none) (m3 : mg "bool" = none)
    (hd : (prm == ("__debug__" : Str)) = false := by decide +kernel) (hcd : (prm == ("__classdict__" : Str)) = false := by decide +kernel) : FnQ P w K mg base x 1 1 phi_wholeQ := by
  refine def_okQ T S hnk hnd rfl hbd fun Y ds H hl nb => ?_
  obtain ⟨i, rfl⟩ : ∃ i : Int, ds = [.int i] := by
    unfold phi_wholeQ at nb
    split at nb
    · exact ⟨_, rfl⟩
    · exact absurd rfl nb
  exact ⟨.bl true, xe_andV (q_isi H 1 m1 (q_var H 0 0 (hd := hd) (hcd := hcd)) (q_bcl H 2 m2 boot_int) (.ty _) (.int _) kit_is) fun _ => xe_one (xe_notV (q_isi H 1 m1 (q_var H 0 0 (hd := hd) (hcd := hcd)) (q_bcl H 3 m3 boot_bool) (.ty _) (.int _) kit_is)), rfl⟩
end
end PL
/-! a text, so many times -/
namespace PL
open PySem PySem.Spec L2
theorem rep_fold (l : List Nat) : ∀ (n : Nat) (acc : List Nat), ((List.replicate n l.toArray).foldl (· ++ ·) acc.toArray : Array Nat) = (acc ++ (List.replicate n l).flatten).toArray
  | 0, acc => by simp
  | n + 1, acc => by
    rw [List.replicate_succ, List.foldl_cons, List.replicate_succ, List.flatten_cons, show (acc.toArray ++ l.toArray : Array Nat) = (acc ++ l).toArray by simp, rep_fold l n (acc ++ l), List.append_assoc]
theorem rep_len (l : List Nat) : ∀ n : Nat, (List.replicate n l).flatten.length = n * l.length
  | 0 => by simp
  | n + 1 => by
    rw [List.replicate_succ, List.flatten_cons, List.length_append, rep_len l n, Nat.succ_mul, Nat.add_comm]
section
variable {X : Cx} {ρ : List E} {a b : Expr} {pos : Pos}
theorem op_mulS : OpR X (binaryOp .Mult) (fun x y H Q => ∃ (l : List Nat) (n : Nat), x = .str (tx l) ∧ y = .int (n : Int) ∧ 2 ≤ n ∧ n ≤ 10000 ∧ l ≠ [] ∧ l.length * n ≤ 100000 ∧ Q (.str (tx (List.replicate n l).flatten)) H) := by
  intro pins s σ H x y v u Q I rx ry h
  obtain ⟨l, n, rfl, rfl, h2, h3, h4, h5, q⟩ := h
  obtain ⟨t, rfl⟩ := (show ∃ t, v = Value.str (tx l) t from rx)
  obtain ⟨t', rfl⟩ := (show ∃ t, u = Value.int (n : Int) t from ry)
  have hp : 0 < l.length := List.length_pos_iff.mpr h4
  have hx : (tx l).length = l.length := tx_len l
  have e1 : ¬ ((n : Int) < 1) := by omega
  have e2 : ((n : Int) == 1 || (tx l).length == 0) = false := by
    rw [hx, Bool.or_eq_false_iff, beq_eq_false_iff_ne, beq_eq_false_iff_ne]
    omega
  have hn : (n : Int).toNat = n := rfl
  have z1 : ¬ (n : Int) < -(2 ^ 63 : Int) := Int.not_lt.mpr (Int.le_trans (by decide : -(2 ^ 63 : Int) ≤ 0) (Int.natCast_nonneg n))
  have z2 : ¬ (n : Int) ≥ 2 ^ 63 := Int.not_le.mpr (Int.lt_of_le_of_lt (show (n : Int) ≤ 10000 by omega) (by decide))
  refine PySem.P.mul_str (by
      rw [decide_eq_false z1, decide_eq_false z2]
      rfl) (fun _ _ hgt => ?_) (fun _ _ => ?_) ?_
  · rw [hx] at hgt
    have k5 : (l.length : Int) * (n : Int) ≤ 100000 := by
      rw [← Int.natCast_mul]
      exact Int.ofNat_le.mpr h5
    have k6 : (l.length : Int) ≤ (2 ^ 63 - 1) / (n : Int) := (Int.le_ediv_iff_mul_le (by omega)).mpr (Int.le_trans k5 (by decide))
    exact absurd hgt (Int.not_lt.mpr k6)
  · rw [hx, hn]
    unfold Builtin.Str.tooLong
    simp only [decide_eq_false_iff_not, sizeLine_eq]
    omega
  · rw [if_neg e1, e2, if_neg (by decide)]
    have e3 : (⟨(List.replicate (n : Int).toNat (tx l).cps).foldl (· ++ ·) #[]⟩ : Str) = tx (List.replicate n l).flatten := by
      show (⟨_⟩ : Str) = ⟨_⟩
      rw [hn, show (#[] : Array Nat) = ([] : List Nat).toArray from rfl, rep_fold l n []]
      rfl
    rw [e3]
    refine ⟨?_, .str (tx (List.replicate n l).flatten), H, I.tok _, ⟨_, rfl⟩, q⟩
    rw [tx_len, rep_len, sizeLine_eq]
    rw [Nat.mul_comm] at h5
    omega
/-- 'text' * n -/
theorem x_repS {l : List Nat} {n : Nat} (ha : XE X ρ a (.tx l)) (hb : XE X ρ b (.int (n : Int))) (h : (2 ≤ n ∧ n ≤ 10000) ∧ l ≠ [] ∧ l.length * n ≤ 100000) : XE X ρ (.BinOp a .Mult b pos) (.tx (List.replicate n l).flatten) :=
  xe_op op_mulS ha hb fun _ _ q => ⟨l, n, rfl, rfl, h.1.1, h.1.2, h.2.1, h.2.2, q⟩
end
end PL
/-! what the laws draw: cells, digits -/
namespace Dig
open PySem PySem.Spec L2 PL
def cell (ns : List Int) (k : Int) : Int := ns.getD k.toNat ((k + 2) ^ Int.toNat 5 * 1299709 % 15485863)
def stir1 (n : Int) : Int := (n % 10 ^ Int.toNat 18 + 1) * 452930459 % 4294967291
def stir2 (n : Int) : Int := stir1 n * (stir1 n % 65521 + 15485863) % 999999937
def stir (n : Int) : Int := stir2 n * (stir2 n % 32749 + 3) % 2147483629
def small (c : Int) : Bool := decide ((if c < 0 then -c else c) < 10 ^ Int.toNat 18)
def digs : Bool → Int → List Int → List Int
  | _, _, [] => []
  | true, c, s :: r => stir c / 8 % s :: digs true (stir c) r
  | false, c, s :: r => c % s :: digs false (c / s) r
inductive Bnd : List Int → List Int → Prop where
  | nil : Bnd [] []
  | cons {d s : Int} {ds ss : List Int} : 0 ≤ d → d < s → Bnd ds ss → Bnd (d :: ds) (s :: ss)
theorem digs_ok : ∀ (m : Bool) (c : Int) (ss : List Int), (∀ s ∈ ss, 0 < s ∧ s < 1073741824) → Bnd (digs m c ss) ss
  | m, c, [], _ => by cases m <;> exact .nil
  | true, c, s :: r, h => by
    have h1 := h s List.mem_cons_self
    exact .cons (Int.emod_nonneg _ (by omega)) (Int.emod_lt_of_pos _ h1.1) (digs_ok true _ r fun x hx => h x (List.mem_cons_of_mem _ hx))
  | false, c, s :: r, h => by
    have h1 := h s List.mem_cons_self
    exact .cons (Int.emod_nonneg _ (by omega)) (Int.emod_lt_of_pos _ h1.1) (digs_ok false _ r fun x hx => h x (List.mem_cons_of_mem _ hx))
theorem Bnd.inv {l : List Int} {s : Int} {ss : List Int} (h : Bnd l (s :: ss)) : ∃ d r, l = d :: r ∧ (0 ≤ d ∧ d < s) ∧ Bnd r ss := by
  cases h with
  | cons a b c => exact ⟨_, _, rfl, ⟨a, b⟩, c⟩
theorem Bnd.nil' {l : List Int} (h : Bnd l []) : l = [] := by
  cases h
  rfl
theorem Bnd.len : ∀ {l ss : List Int}, Bnd l ss → l.length = ss.length
  | _, _, .nil => rfl
  | _, _, .cons _ _ h => by simp [h.len]
theorem b1 {l : List Int} {s1 : Int} (h : Bnd l [s1]) : ∃ a, l = [a] ∧ 0 ≤ a ∧ a < s1 := by
  obtain ⟨a, r, rfl, h1, h⟩ := h.inv
  rw [h.nil']
  exact ⟨_, rfl, h1⟩
theorem b2 {l : List Int} {s1 s2 : Int} (h : Bnd l [s1, s2]) : ∃ a b, l = [a, b] ∧ (0 ≤ a ∧ a < s1) ∧ 0 ≤ b ∧ b < s2 := by
  obtain ⟨a, r, rfl, h1, h⟩ := h.inv
  obtain ⟨b, rfl, h2⟩ := b1 h
  exact ⟨_, _, rfl, h1, h2⟩
theorem b3 {l : List Int} {s1 s2 s3 : Int} (h : Bnd l [s1, s2, s3]) : ∃ a b c, l = [a, b, c] ∧ (0 ≤ a ∧ a < s1) ∧ (0 ≤ b ∧ b < s2) ∧ 0 ≤ c ∧ c < s3 := by
  obtain ⟨a, r, rfl, h1, h⟩ := h.inv
  obtain ⟨b, c, rfl, h2⟩ := b2 h
  exact ⟨_, _, _, rfl, h1, h2⟩
theorem b4 {l : List Int} {s1 s2 s3 s4 : Int} (h : Bnd l [s1, s2, s3, s4]) : ∃ a b c d, l = [a, b, c, d] ∧ (0 ≤ a ∧ a < s1) ∧ (0 ≤ b ∧ b < s2) ∧ (0 ≤ c ∧ c < s3) ∧ 0 ≤ d ∧ d < s4 := by
  obtain ⟨a, r, rfl, h1, h⟩ := h.inv
  obtain ⟨b, c, d, rfl, h2⟩ := b3 h
  exact ⟨_, _, _, _, rfl, h1, h2⟩
theorem b5 {l : List Int} {s1 s2 s3 s4 s5 : Int} (h : Bnd l [s1, s2, s3, s4, s5]) : ∃ a b c d e, l = [a, b, c, d, e] ∧ (0 ≤ a ∧ a < s1) ∧ (0 ≤ b ∧ b < s2) ∧ (0 ≤ c ∧ c < s3) ∧ (0 ≤ d ∧ d < s4) ∧ 0 ≤ e ∧ e < s5 := by
  obtain ⟨a, r, rfl, h1, h⟩ := h.inv
  obtain ⟨b, c, d, e, rfl, h2⟩ := b4 h
  exact ⟨_, _, _, _, _, rfl, h1, h2⟩
theorem b6 {l : List Int} {s1 s2 s3 s4 s5 s6 : Int} (h : Bnd l [s1, s2, s3, s4, s5, s6]) : ∃ a b c d e f, l = [a, b, c, d, e, f] ∧ (0 ≤ a ∧ a < s1) ∧ (0 ≤ b ∧ b < s2) ∧ (0 ≤ c ∧ c < s3) ∧ (0 ≤ d ∧ d < s4) ∧ (0 ≤ e ∧ e < s5) ∧ 0 ≤ f ∧ f < s6 := by
  obtain ⟨a, r, rfl, h1, h⟩ := h.inv
  obtain ⟨b, c, d, e, f, rfl, h2⟩ := b5 h
  exact ⟨_, _, _, _, _, _, rfl, h1, h2⟩
theorem b7 {l : List Int} {s1 s2 s3 s4 s5 s6 s7 : Int} (h : Bnd l [s1, s2, s3, s4, s5, s6, s7]) : ∃ a b c d e f g, l = [a, b, c, d, e, f, g] ∧ (0 ≤ a ∧ a < s1) ∧ (0 ≤ b ∧ b < s2) ∧ (0 ≤ c ∧ c < s3) ∧ (0 ≤ d ∧ d < s4) ∧ (0 ≤ e ∧ e < s5) ∧ (0 ≤ f ∧ f < s6) ∧ 0 ≤ g ∧ g < s7 := by
  obtain ⟨a, r, rfl, h1, h⟩ := h.inv
  obtain ⟨b, c, d, e, f, g, rfl, h2⟩ := b6 h
  exact ⟨_, _, _, _, _, _, _, rfl, h1, h2⟩
/-- the digits as the law draws them -/
def digV (m : Bool) (c : Int) (ss : List Int) : List Int := digs (m || small c) c ss
theorem digV_ok (m : Bool) (c : Int) (ss : List Int) (h : ∀ s ∈ ss, 0 < s ∧ s < 1073741824) : Bnd (digV m c ss) ss := digs_ok _ _ _ h
def toInt1 : D → Int
  | .v (.int i) => i
  | _ => 0
theorem toInts_map (ns : List Int) : (ns.map D.int).map toInt1 = ns := by
  rw [List.map_map]
  exact List.map_id'' (fun _ => rfl) ns
/-- one turn -/
def digF (m : Bool) (y : Int × List D) (d : D) : Int × List D := if m then (stir y.1, y.2 ++ [.int (stir y.1 / 8 % toInt1 d)]) else (y.1 / toInt1 d, y.2 ++ [.int (y.1 % toInt1 d)])
theorem digF_fold : ∀ (m : Bool) (ss : List Int) (c : Int) (l : List D), ((ss.map D.int).foldl (digF m) (c, l)).2 = l ++ (digs m c ss).map D.int
  | m, [], c, l => by cases m <;> simp [digs]
  | true, s :: r, c, l => by
    rw [List.map_cons, List.foldl_cons, show digF true (c, l) (D.int s) = (stir c, l ++ [.int (stir c / 8 % s)]) from rfl, digF_fold]
    simp [digs]
  | false, s :: r, c, l => by
    rw [List.map_cons, List.foldl_cons, show digF false (c, l) (D.int s) = (c / s, l ++ [.int (c % s)]) from rfl, digF_fold]
    simp [digs]
open Classical in
/-- the contract of the law's digits -/
noncomputable def phi_law_digits : List D → Ro
  | [.v (.int c), .lst l, .v (.bl m)] => if l = (l.map toInt1).map D.int ∧ (∀ s ∈ l.map toInt1, 0 < s ∧ s < 1073741824) ∧ l.length ≤ 1000 then .fr ((digV m c (l.map toInt1)).map D.int) else .bad
  | _ => .bad
theorem dig_val {c : Int} {ss : List Int} {m : Bool} (h : ∀ s ∈ ss, 0 < s ∧ s < 1073741824) (hl : ss.length ≤ 1000) : phi_law_digits [.int c, .lst (ss.map D.int), .bl m] = .fr ((digV m c ss).map D.int) := by
  unfold phi_law_digits
  simp only [toInts_map, List.length_map]
  rw [if_pos ⟨trivial, h, hl⟩]
theorem dig_is {c : Int} {ss l : List Int} {m : Bool} (e : digV m c ss = l) (h : ∀ s ∈ ss, 0 < s ∧ s < 1073741824 := by decide) (hl : ss.length ≤ 1000 := by decide) : phi_law_digits [.int c, .lst (ss.map D.int), .bl m] = .fr (l.map D.int) := by
  rw [dig_val h hl, e]
theorem dig_inv {ds : List D} (h : phi_law_digits ds ≠ .bad) : ∃ (c : Int) (ss : List Int) (m : Bool), ds = [.int c, .lst (ss.map D.int), .bl m] ∧ (∀ s ∈ ss, 0 < s ∧ s < 1073741824) ∧ ss.length ≤ 1000 := by
  unfold phi_law_digits at h
  split at h
  · rename_i c l m
    split at h
    · rename_i q
      obtain ⟨h1, h2, h3⟩ := q
      exact ⟨c, l.map toInt1, m, by rw [← h1], h2, by rw [List.length_map]; exact h3⟩
    · exact absurd rfl h
  · exact absurd rfl h
def phi_law_stir : List D → Ro := fI fun c => .val (.int (stir c))
def phi_law_cell_at : List D → Ro := fLI fun l k => if 0 ≤ k ∧ k ≤ 1000000 then .val (l.getD k.toNat (.int ((k + 2) ^ Int.toNat 5 * 1299709 % 15485863))) else .bad
theorem cell_val {ns : List Int} {k : Int} (h : 0 ≤ k ∧ k ≤ 1000000) : phi_law_cell_at [.lst (ns.map D.int), .int k] = .val (.int (cell ns k)) := by
  show (if 0 ≤ k ∧ k ≤ 1000000 then Ro.val ((ns.map D.int).getD k.toNat (.int ((k + 2) ^ Int.toNat 5 * 1299709 % 15485863))) else .bad) = _
  rw [if_pos h, getD_map']
  rfl
end Dig
/-! masks: whole numbers as sets of bits -/
namespace Bits
open PySem PySem.Spec L2 PL
theorem shl_nat (n : Nat) : (1 : Int) * 2 ^ ((n : Int).toNat) = ((2 ^ n : Nat) : Int) := by
  rw [Int.toNat_natCast]
  push_cast
  omega
theorem or_nat (m n : Nat) : Builtin.bitOr (m : Int) (n : Int) = ((m ||| n : Nat) : Int) := by
  rw [bitOr_pp (Int.natCast_nonneg _) (Int.natCast_nonneg _), Int.toNat_natCast, Int.toNat_natCast]
/-- the mask of numbers -/
def maskOf (l : List Nat) : Nat := l.foldl (fun m n => m ||| 2 ^ n) 0
/-- a list of numbers as data -/
def nl (l : List Nat) : List D := (l.map fun n : Nat => (n : Int)).map D.int
theorem nl_len (l : List Nat) : (nl l).length = l.length := by simp [nl]
theorem cast_inj {a b : List Nat} (h : a.map (fun n : Nat => (n : Int)) = b.map fun n : Nat => (n : Int)) : a = b := List.map_inj_right (fun x y => Int.ofNat_inj.mp) |>.mp h
theorem eqD_nl (a b : List Nat) : EqD (.lst (nl a)) (.lst (nl b)) (decide (a = b)) := by
  have h := eqD_ints (a.map fun n : Nat => (n : Int)) (b.map fun n : Nat => (n : Int))
  have e : decide (a.map (fun n : Nat => (n : Int)) = b.map fun n : Nat => (n : Int)) = decide (a = b) := by
    rw [decide_eq_decide]
    exact ⟨cast_inj, fun e => by rw [e]⟩
  rw [e] at h
  exact h
def toNats (l : List D) : List Nat := l.map fun d => (Dig.toInt1 d).toNat
theorem toNats_nl (l : List Nat) : toNats (nl l) = l := by
  unfold toNats nl
  rw [List.map_map, List.map_map]
  exact List.map_id'' (fun n => by simp [Dig.toInt1]) l
section
variable {X : Cx} {ρ : List E} {tg : Expr} {scope : Scope} {vs : List Nat} {elt c : Expr}
theorem lc_fil {α : Type} {F G : α → D} (q : α → Bool) : ∀ {as : List α}, (∀ x ∈ as, ∃ ρ1, Blk X scope (fun Y => XGw Y vs ρ tg (F x) ρ1) ∧ Blk X scope (fun Y => XT Y ρ1 c (q x)) ∧ (q x = true → Blk X scope (fun Y => XE Y ρ1 elt (G x)))) → LcD X scope vs tg [c] elt ρ (as.map F) ((as.filter q).map G)
  | [], _ => .nil
  | d :: ds, h => by
    obtain ⟨ρ1, h1, h2, h3⟩ := h d List.mem_cons_self
    have ih := lc_fil q fun x hx => h x (List.mem_cons_of_mem _ hx)
    cases hq : q d with
    | true =>
      rw [List.filter_cons_of_pos hq, List.map_cons, List.map_cons]
      rw [hq] at h2
      exact .keep h1 (fun s H C cl fp => xts_one (h2 s H C cl fp)) (h3 hq) ih
    | false =>
      rw [List.filter_cons_of_neg (by rw [hq]; decide), List.map_cons]
      rw [hq] at h2
      exact .skip h1 (fun s H C cl fp => xts_one (h2 s H C cl fp)) ih
end
section
open Classical
/-- numbers from 0 to 63 in a list -/
noncomputable def fN (f : List Nat → Ro) : List D → Ro
  | [.lst l] => if l = nl (toNats l) ∧ (∀ n ∈ toNats l, n < 64) ∧ l.length ≤ 1000 then f (toNats l) else .bad
  | _ => .bad
theorem fN_val {f : List Nat → Ro} {l : List Nat} (h : ∀ n ∈ l, n < 64) (hl : l.length ≤ 1000) : fN f [.lst (nl l)] = f l := by
  show (if nl l = nl (toNats (nl l)) ∧ (∀ n ∈ toNats (nl l), n < 64) ∧ (nl l).length ≤ 1000 then f (toNats (nl l)) else .bad) = _
  rw [toNats_nl, if_pos ⟨rfl, h, by rw [nl_len]; exact hl⟩]
theorem inv_N {f : List Nat → Ro} {ds : List D} (h : fN f ds ≠ .bad) : ∃ l : List Nat, ds = [.lst (nl l)] ∧ (∀ n ∈ l, n < 64) ∧ l.length ≤ 1000 ∧ fN f ds = f l := by
  unfold fN at h
  split at h
  · rename_i l
    split at h
    · rename_i q
      obtain ⟨q1, q2, q3⟩ := q
      have e : (toNats l).length ≤ 1000 := by simpa [toNats] using q3
      exact ⟨toNats l, by rw [← q1], q2, e, by rw [q1, fN_val q2 e, toNats_nl]⟩
    · exact absurd rfl h
  · exact absurd rfl h
end
/-- the cut of whole numbers -/
def cutI (l : List Int) (lo hi : Option Int) : List Int := (l.drop (HT.sIx l.length 0 lo)).take (HT.sIx l.length l.length hi - HT.sIx l.length 0 lo)
end Bits
/-! fields' texts: what number_in, span_in, item_mask and read_field tell -/
namespace Fld
open PySem PL Bits TL L2
abbrev figs : List Nat := [48, 49, 50, 51, 52, 53, 54, 55, 56, 57]
theorem fig_iff {c : Nat} : c ∈ figs ↔ 48 ≤ c ∧ c ≤ 57 := by
  simp only [figs, List.mem_cons, List.not_mem_nil, or_false]
  omega
def onlyF (l : List Nat) : Bool := (l.all fun c => decide (c ∈ figs)) && !decide (l = [])
theorem onlyF_iff {l : List Nat} : onlyF l = true ↔ NumText.AllDigits l ∧ l ≠ [] := by
  unfold onlyF
  rw [Bool.and_eq_true, List.all_eq_true, Bool.not_eq_true', decide_eq_false_iff_not]
  constructor
  · exact fun h => ⟨fun c hc => fig_iff.mp (by simpa using h.1 c hc), h.2⟩
  · exact fun h => ⟨fun c hc => by simpa using fig_iff.mpr (h.1 c hc), h.2⟩
theorem onlyF_int {l : List Nat} (h : onlyF l = true) (hl : l.length ≤ 640) : intText? (tx l) = some ((NumText.digitsVal l : Nat) : Int) :=
  intText_digits (x := tx l) (onlyF_iff.mp h).1 (onlyF_iff.mp h).2 (by rw [tx_len]; omega)
theorem onlyF_at {l : List Nat} (h : (!onlyF l) = false) : atI l 0 = some (l.headD 0) := by
  have h' : onlyF l = true := by simpa using h
  cases l with
  | nil => cases h'
  | cons c r => exact atI_nat (j := 0) rfl
/-- a text that is no number of one or two figures -/
def badNum (l : List Nat) : Bool := !onlyF l || (decide (((l.length : Nat) : Int) > 2) || (decide ([l.headD 0] = ([48] : List Nat)) && !decide (l = [48])))
def numN (l : List Nat) (lo hi : Nat) : List Nat := if badNum l = true then [] else if lo ≤ NumText.digitsVal l ∧ NumText.digitsVal l ≤ hi then [NumText.digitsVal l] else []
theorem numN_mem {l : List Nat} {lo hi n : Nat} (h : n ∈ numN l lo hi) : lo ≤ n ∧ n ≤ hi := by
  unfold numN at h
  split at h
  · simp at h
  · split at h
    · simp only [List.mem_singleton] at h
      subst h
      assumption
    · simp at h
theorem numN_one {l : List Nat} {lo hi : Nat} (h : numN l lo hi ≠ []) : numN l lo hi = [(numN l lo hi).headD 0] := by
  unfold numN at *
  repeat' split
  all_goals simp_all
theorem spl_ne (S : List Nat) : ∀ (l : List Nat) (k : Nat) (acc : List Nat), spl S k acc l ≠ []
  | [], k, acc => by rw [spl_nil]; simp
  | c :: r, 0, acc => by
    show (if pre S (c :: r) = true then acc :: spl S (S.length - 1) [] r else spl S 0 (acc ++ [c]) r) ≠ []
    split
    · simp
    · exact spl_ne S r 0 _
  | c :: r, k + 1, acc => spl_ne S r k acc
theorem spl_len (S : List Nat) : ∀ (l : List Nat) (k : Nat) (acc : List Nat), (spl S k acc l).length ≤ l.length + 1 ∧ ∀ x ∈ spl S k acc l, x.length ≤ acc.length + l.length
  | [], k, acc => by rw [spl_nil]; simp
  | c :: r, 0, acc => by
    rw [show spl S 0 acc (c :: r) = (if pre S (c :: r) = true then acc :: spl S (S.length - 1) [] r else spl S 0 (acc ++ [c]) r) from rfl]
    split
    · obtain ⟨h1, h2⟩ := spl_len S r (S.length - 1) []
      refine ⟨by simp only [List.length_cons]; omega, fun x hx => ?_⟩
      rcases List.mem_cons.mp hx with rfl | hx
      · omega
      · have := h2 x hx
        simp only [List.length_cons, List.length_nil] at *
        omega
    · obtain ⟨h1, h2⟩ := spl_len S r 0 (acc ++ [c])
      refine ⟨by simp only [List.length_cons]; omega, fun x hx => ?_⟩
      have := h2 x hx
      simp only [List.length_cons, List.length_append, List.length_nil] at *
      omega
  | c :: r, k + 1, acc => by
    obtain ⟨h1, h2⟩ := spl_len S r k acc
    refine ⟨by simp only [List.length_cons]; show (spl S k acc r).length ≤ _; omega, fun x hx => ?_⟩
    have := h2 x hx
    simp only [List.length_cons]
    omega
/-- the ends of an item ahead of its stride -/
def endsN (l : List Nat) (lo hi : Nat) : List (List Nat) := (spl [45] 0 [] l).map fun p => numN p lo hi
def badSpan (es : List (List Nat)) : Bool := decide (((es.length : Nat) : Int) > 2) || es.any (fun e => decide (e = [])) || decide ((((es.headD []).headD 0 : Nat) : Int) > (((es.getLastD []).headD 0 : Nat) : Int))
def spanN (l : List Nat) (lo hi : Nat) : List Nat :=
  if l = [42] then [lo, hi] else if badSpan (endsN l lo hi) = true then [] else [((endsN l lo hi).headD []).headD 0, ((endsN l lo hi).getLastD []).headD 0]
theorem ends_ne (l : List Nat) (lo hi : Nat) : endsN l lo hi ≠ [] := by
  unfold endsN
  simp [spl_ne]
theorem spanN_shape (l : List Nat) (lo hi : Nat) (h : lo ≤ hi) : spanN l lo hi = [] ∨ ∃ a b, spanN l lo hi = [a, b] ∧ lo ≤ a ∧ a ≤ b ∧ b ≤ hi := by
  unfold spanN
  split
  · exact .inr ⟨lo, hi, rfl, Nat.le_refl _, h, Nat.le_refl _⟩
  · split
    · exact .inl rfl
    · rename_i h2
      refine .inr ⟨_, _, rfl, ?_⟩
      unfold badSpan at h2
      simp only [Bool.or_eq_true, decide_eq_true_eq, List.any_eq_true, not_or, not_exists, not_and] at h2
      obtain ⟨⟨h3, h4⟩, h5⟩ := h2
      have ne := ends_ne l lo hi
      have hh : (endsN l lo hi).headD [] ∈ endsN l lo hi := by
        cases e : endsN l lo hi with
        | nil => exact absurd e ne
        | cons x r => simp
      have hg : (endsN l lo hi).getLastD [] ∈ endsN l lo hi := by
        cases e : endsN l lo hi with
        | nil => exact absurd e ne
        | cons x r =>
          rw [List.getLastD_cons]
          exact List.getLastD_mem_cons
      have key : ∀ e ∈ endsN l lo hi, lo ≤ e.headD 0 ∧ e.headD 0 ≤ hi := by
        intro e he
        have h6 := h4 e he
        obtain ⟨p, _, rfl⟩ := List.mem_map.mp he
        have h7 := numN_one h6
        exact numN_mem (l := p) (by rw [h7]; exact List.mem_singleton.mpr rfl)
      have k1 := key _ hh
      have k2 := key _ hg
      omega
/-- from a to b by steps of s -/
def stepsN (a b s : Nat) : List Nat := (List.range (Builtin.Range.rangeSize (a : Int) ((b : Int) + 1) (s : Int)).toNat).map fun q => a + q * s
theorem steps_nl (a b s : Nat) : rcD (a : Int) (s : Int) (Builtin.Range.rangeSize (a : Int) ((b : Int) + 1) (s : Int)).toNat = nl (stepsN a b s) := by
  unfold rcD nl stepsN
  rw [List.map_map, List.map_map]
  refine List.map_congr_left fun q _ => ?_
  simp
theorem span_nl (a b : Nat) : rgD (a : Int) ((b : Int) + 1 - (a : Int)).toNat = nl ((List.range (b + 1 - a)).map fun q => a + q) := by
  unfold rgD nl
  rw [List.map_map, List.map_map, show ((b : Int) + 1 - (a : Int)).toNat = b + 1 - a by omega]
  refine List.map_congr_left fun q _ => ?_
  simp
theorem mem_steps {a b s i : Nat} (hs : 0 < s) : i ∈ stepsN a b s ↔ a ≤ i ∧ i ≤ b ∧ (i - a) % s = 0 := by
  unfold stepsN Builtin.Range.rangeSize
  rw [if_pos (by omega)]
  simp only [List.mem_map, List.mem_range]
  constructor
  · rintro ⟨q, hq, rfl⟩
    split at hq
    · rename_i hab
      have h1 : (q : Int) ≤ ((b : Int) + 1 - a - 1) / s := by omega
      have h2 := (Int.le_ediv_iff_mul_le (by omega)).mp h1
      refine ⟨by omega, ?_, ?_⟩
      · have : ((q * s : Nat) : Int) ≤ (b : Int) - a := by push_cast; omega
        omega
      · rw [Nat.add_sub_cancel_left, Nat.mul_mod_left]
    · omega
  · rintro ⟨h1, h2, h3⟩
    obtain ⟨q, hq⟩ := Nat.dvd_of_mod_eq_zero h3
    refine ⟨q, ?_, by rw [Nat.mul_comm]; omega⟩
    rw [if_pos (by omega)]
    have h4 : (q : Int) ≤ ((b : Int) + 1 - a - 1) / s := by
      refine (Int.le_ediv_iff_mul_le (by omega)).mpr ?_
      have : ((q * s : Nat) : Int) ≤ (b : Int) - a := by rw [Nat.mul_comm, ← hq]; omega
      push_cast at this
      omega
    omega
theorem steps_len {a b s : Nat} (hs : 0 < s) : (stepsN a b s).length ≤ b + 1 := by
  unfold stepsN
  rw [List.length_map, List.length_range]
  have := (rs_pos (i := (a : Int)) (j := (b : Int) + 1) (c := (s : Int)) (by omega))
  omega
/-- the mask of an item -/
def itemN (l : List Nat) (lo hi : Nat) : Nat :=
  let hs := spl [47] 0 [] l
  match spanN (hs.headD []) lo hi with
  | [a, b] => if 2 < hs.length then 0 else if hs.length = 1 then maskOf ((List.range (b + 1 - a)).map fun q => a + q) else
      match numN (hs.getD 1 []) 1 99 with
      | [s] => maskOf (stepsN a (if onlyF (hs.headD []) = true then hi else b) s)
      | _ => 0
  | _ => 0
/-! the six forms -/
/-! what read_field tells -/
def itemsN (l : List Nat) : List (List Nat) := spl [44] 0 [] l
def fieldN (l : List Nat) (lo hi : Nat) : Nat := (itemsN l).foldl (fun m p => m ||| itemN p lo hi) 0
/-! fields of several items -/
theorem items_join {ts : List (List Nat)} (h : ts ≠ []) (hf : ∀ t ∈ ts, 44 ∉ t) : itemsN (joinL [44] ts) = ts := spl_join h hf
section
open Classical
end
end Fld
/-! the nearest working day -/
namespace Nr
open PySem PySem.Spec L2 PL
end Nr
/-! the so-many-th weekdays -/
namespace Nth
open PySem PySem.Spec L2 PL
def isO (w f : Int) (k : Nat) : Bool := decide ((f + (1 + (k : Int)) - 1) % 7 = w)
def onL (w : Int) (l : Nat) (f : Int) : List Int := ((List.range l).filter (isO w f)).map fun k : Nat => 1 + (k : Int)
def sumB (due : List Int) : Int := (due.map fun d => 1 * 2 ^ d.toNat).sum
def cutL (l : List Int) (lo hi : Option Int) : List Int := Bits.cutI l lo hi
def tW (m l f w : Nat) : Int := if m.testBit w = true then sumB (onL (w : Nat) l (f : Nat)) else 0
end Nth
namespace Nth
open PySem PySem.Spec L2 PL
section
variable {X : Cx} {ρ : List E} {tg : Expr} {scope : Scope} {vs : List Nat} {elt c : Expr}
end
end Nth
/-! plain marks -/
namespace Mk
open PySem PySem.Spec L2 PL Nth
end Mk
/-! sorted(set(a list of whole numbers)) -/
namespace PL
open PySem PySem.Spec PyProof.Rows L2
open Evl (Ex)
abbrev nwSet (w : World) : Obj := { cls := .type "set", dict := none, data := .set #[] 0 (.fresh 0 0 (!w.params.followText "set-order")) }
section
variable {P : Program} {w : World} {A : Around} {E : Value → Shared → Prop} {s : Shared}
/-- the state with the new set -/
abbrev stS (w : World) (s : Shared) : Shared := { s with heap := s.heap.push (nwSet w) }
abbrev EndS (w : World) (s : Shared) (ns : List Int) (r : Value) (z : Shared) : Prop := r = .none ∧ ∃ g k c, z = { s with heap := g, toks := k } ∧ SetR w g s.heap.objs.size (fun j => decide (j ∈ ns)) c ∧ c ≤ ns.length ∧ ∀ b o, s.heap.get? b = some o → g.get? b = some o
end
section
variable {X : Cx}
end
section
variable {X : Cx} {P : Program} {w : World} {K : PySem.W.Frag} {mg : Str → Option Value} {base : Heap} {k k' n : Nat} {N : List Str} {nk : List (Str × NameKind)} {W : WX}
variable {ρ : List E} {e a b c tg : Expr} {pos p p' pos2 p2 : Pos}
end
end PL
/-! lists of objects: told with their very items; back to front -/
namespace PL
open PySem PySem.Spec L2 PyProof.Rows
open Evl (Ex)
section
variable {K : PySem.W.Frag} {H : Hp}
end
section
variable {X : Cx} {P : Program} {w : World} {K : PySem.W.Frag} {mg : Str → Option Value} {base : Heap} {k k' n : Nat} {N : List Str} {nk : List (Str × NameKind)} {W : WX}
variable {ρ ρ' ρ1 ρ2 : List E} {e a b c tg : Expr} {es : List Expr} {d f : D} {ds l m : List D} {pos p p' p2 : Pos} {s : Str} {o o1 : Out} {kd : NameKind} {φ : List D → Ro} {body sts other more : List Stmt} {st : Stmt} {Bo : Bool} {us : List V} {te : TE} {tk : TO} {sx : Expr}
/-! xs[::-1] -/
end
end PL
/-! marks of every sort: what they tell, by the program and by the law -/
namespace Mks
open PySem PySem.Spec L2 PL Bits Fld TL
inductive Mrk where
  | wks (m : Nat)
  | num (m : Nat)
  | last (b : Nat)
  | near (d : Nat)
  | work
  | nth (w m : Nat)
  | lone (w : Nat)
  | bare
deriving DecidableEq
/-! the law's own view of a mark -/
def wordT : Mrk → List Nat
  | .wks _ => [112, 108, 97, 105, 110]
  | .num _ => [112, 108, 97, 105, 110]
  | .last _ => [108, 97, 115, 116]
  | .near _ => [110, 101, 97, 114]
  | .work => [119, 111, 114, 107]
  | .nth _ _ => [110, 116, 104]
  | .lone _ => [108, 97, 115, 116, 111, 110, 101]
  | .bare => []
def oneM : Mrk → Nat
  | .wks m => m
  | .num m => m
  | .last b => b
  | .near d => d
  | .nth w _ => w
  | .lone w => w
  | _ => 0
def othM : Mrk → Nat
  | .nth _ m => m
  | _ => 0
def spD (k : Mrk) : D := .tup [.tx (wordT k), .int (oneM k : Nat), .int (othM k : Nat)]
/-! days by the law's own lists -/
/-! drawn items -/
/-! drawn marks -/
end Mks
/-! long lists' numbers each once; defs handed on as values -/
namespace PL
open PySem PySem.Spec PyProof.Rows L2
open Evl (Ex)
section
variable {X : Cx}
end
section
variable {X : Cx} {P : Program} {w : World} {K : PySem.W.Frag} {mg : Str → Option Value} {base : Heap} {k k' n : Nat} {N : List Str} {nk : List (Str × NameKind)} {W : WX} {kd : NameKind} {s : Str} {φ : List D → Ro} {d : D} {ds l : List D} {es : List Expr}
variable {ρ : List E} {e a b c tg : Expr} {pos p p' pos2 p2 : Pos}
theorem rpL_rep {K : PySem.W.Frag} {H : Hp} {l : List D} {xs : List V} (h : RpL K H l xs) : ∀ n : Nat, RpL K H (List.replicate n l).flatten (List.replicate n xs).flatten
  | 0 => rpL_nil
  | n + 1 => by
    rw [List.replicate_succ, List.replicate_succ, List.flatten_cons, List.flatten_cons]
    exact rpL_app h (rpL_rep h n)
/-- [..] * n -/
theorem x_repL {i : Int} (ha : XO X ρ a l) (hb : XE X ρ b (.int i)) (h : 0 ≤ i ∧ i < 1000 ∧ l.length * i.toNat ≤ 100000) : XO X ρ (.BinOp a .Mult b pos) (List.replicate i.toNat l).flatten :=
  PE.imp (pe_op op_rep ha hb) fun σ H Q ⟨Bv, Bs, Hv, g, k⟩ => ⟨Bv, Bs, Hv, g, fun q xs H1 Hv1 g1 e1 h1 h2 h3 h4 h5 h6 => ⟨Bv, Bs, Hv1, g1, fun v2 H2 Hv2 g2 e2 r2 => by
    refine ⟨q, i, xs, rfl, rp_v r2, e2.hh _ _ h3, by omega, by omega, Evl.sz_of (by rw [rpL_len h4]; exact h.2.2), fun r hr => ?_⟩
    have x := e1.trans e2
    exact k r _ _ _ (g2.newH hr) (x.trans (Vx.newH g2.vx.vh hr)) (Evl.fresh_back g2.vx.hh hr) (Evl.fresh_back g2.vx.vh hr) upd_same (rpL_rep (rpL_mono e2.vv h4) _) (g2.notOwn_new hr) (Evl.fresh_back x.hh hr)⟩⟩
/-- an if whose suite either ends the block, or goes on as p says -/
theorem xb_ifG {sts more : List Stmt} {o : Out} {ρ1 : List E} {Bo : Bool} (p : Prop) (h : XT X ρ c Bo) (h1 : Bo = true → (XB X W ρ sts o ∧ Stop o) ∨ (p ∧ XB X W ρ sts (.nx ρ1))) (h2 : Bo = false → p ∧ XB X W ρ [] (.nx ρ1)) (t : p → XB X W ρ1 more o) : XB X W ρ (.If c sts [] pos :: more) o := by
  cases Bo with
  | true =>
    rcases h1 rfl with ⟨g1, g2⟩ | ⟨g1, g2⟩
    · exact xb_ifT h rfl g1 g2
    · exact xb_ifm h (fun _ => g2) (fun q => by cases q) (t g1)
  | false =>
    obtain ⟨g1, g2⟩ := h2 rfl
    exact xb_ifm h (fun q => by cases q) (fun _ => g2) (t g1)
/-- a def's value -/
structure FnA (P : Program) (w : World) (K : PySem.W.Frag) (mg : Str → Option Value) (base : Heap) (u : Addr) (k n : Nat) (φ : List D → Ro) : Prop where
  ex : ∃ fd ps, FnOk P w K mg base (L2N.CX P w) k u fd ps (spD K n φ) ∧ PySem.W.keepIn K (.ref u) = true ∧ Binds K fd ps []
theorem FnC.addr (F : FnC P w K mg base s k n φ) : ∃ u, mg s = some (.ref u) ∧ FnA P w K mg base u k n φ := by
  obtain ⟨f, fd, ps, h1, h2, h3, h4⟩ := F.ex
  exact ⟨f, h1, fd, ps, h2, h3, h4⟩
/-- the same address serves -/
theorem FnC.at (F : FnC P w K mg base s k n φ) {u : Addr} (h : mg s = some (.ref u)) : FnA P w K mg base u k n φ := by
  obtain ⟨v, h1, h2⟩ := F.addr
  rw [h1] at h
  cases h
  exact h2
theorem x_fnv (B : Bx X P w K mg base k N nk) (j : Nat) {u : Addr} (h : mg s = some (.ref u)) (hj : nk[j]? = some (s, .globalImplicit) := by rfl) (hd : (s == ("__debug__" : Str)) = false := by decide +kernel) : XE X ρ (.Name s pos) (.v (.ref u)) :=
  x_glob B j (v := .ref u) h rfl (fun H => rp_v') hj hd
theorem x_callV {u : Addr} (B : Bx X P w K mg base k N nk) (h : FnA P w K mg base u k' n φ) (i j : Nat) (ha : XA X ρ (e :: es) ds) (hφ : φ ds = .val d) (hr : ρ[i]? = some (.val (.v (.ref u))) := by rfl) (hk : k' ≤ k := by decide) (hn : ds.length = n := by rfl) (hi : N[i]? = some s := by rfl) (hj : nk[j]? = some (s, kd) := by rfl) (hv : isVis kd = true := by rfl) (hd : (s == ("__debug__" : Str)) = false := by decide +kernel) (hcd : (s == ("__classdict__" : Str)) = false := by decide +kernel)
    (he : starEach (e :: es) X.env = (false, eval e X.env) :: starEach es X.env := by rfl) (hpl : (backTo pos (starEach es X.env)).any (·.1) = false := by rfl) : XE X ρ (.Call (.Name s p) (e :: es) [] pos) d := by
  obtain ⟨fd, ps, F, hkp, hb⟩ := h.ex
  have F2 : FnOk X.prog X.w X.K X.mg X.base (L2N.CX X.prog X.w) k' u fd ps (spD X.K n φ) := by
    rw [B.hP, B.hw, B.hK, B.hm, B.hb]
    exact F
  refine PE.imp (ItX.pe_callV (F2.raw (by rw [B.hK]; exact hb) .nil) (B.room.mono hk) (by rw [B.hK]; exact hkp) (passN (X := X)) (B.at_ hi) (B.vis hj hv) ha hd hcd he hpl) fun σ H Q ⟨Bv, Bs, Hv, g, k⟩ => ?_
  obtain ⟨v, h1, h2⟩ := g.val hr
  have e0 := rp_v h2
  subst e0
  refine ⟨h1, Bv, Bs, Hv, g, fun vs H1 Hv1 g1 e1 r1 => ?_⟩
  refine ⟨Hv1, ds, g1.vx.vh, by rw [List.append_nil]; exact r1, hn, ?_⟩
  rw [hφ]
  exact fun v H' Hv' x r => k v H' Hv' (g1.go x) (e1.trans x) r
end
section
variable {P : Program} {w : World} {K : PySem.W.Frag} {mg : Str → Option Value} {base : Heap}
/-- a def told under another name: y of the module's, x its own -/
def DefAt2 (K : PySem.W.Frag) (mg : Str → Option Value) (y x : Str) (st : Stmt) (ps : List Str) : Prop := ∃ f fd, Fun K x x st f fd ∧ mg y = some (.ref f) ∧ Binds K fd ps []
theorem def_ok2 {x y : Str} {st : Stmt} {ps : List Str} {N : List Str} {nk : List (Str × NameKind)} {k n : Nat} {φ : List D → Ro} (T : DefAt2 K mg y x st ps) (S : FnScope N ps (defScope st)) (hnk : (defScope st).names = nk) (hnd : (nk.map (·.1)).Nodup) (hn : ps.length = n)
    (body : ∀ (X : Cx) (W : WX) (ds : List D), Bx X P w K mg base k N nk → Bs X W → ds.length = n → φ ds ≠ .bad → ∃ o, XB X W (startE N ds) (defBody st) o ∧ Leads o (φ ds)) : FnC P w K mg base y (k + 1) n φ := by
  obtain ⟨f, fd, F, hm, hb⟩ := T
  exact ⟨f, fd, ps, hm, def_fn F S hnk hnd hn body, F.kp, hb⟩
end
theorem def_at2 {K : PySem.W.Frag} {h : Heap} {mg : Str → Option Value} {x y : Str} {st : Stmt} {ps : List Str} {f : Addr} {oc : Value} {od an : Option Addr} {osl : Array (Option Value)} {kV dc pm cd ct : Value} (X : K.In h) (G : h.Ns mainGlobals mg)
    (a : PySem.W.nsIn K mainGlobals y = some (some (.ref f))) (l : K.lookup f = some ⟨oc, od, .func (PySem.W.fnOf x x (defArgs st) (defBody st) (defScope st) .none kV dc pm an cd ct), osl⟩) (c : PySem.W.codeIn K cd x = true) (k : PySem.W.keepIn K (.ref f) = true)
    (hb : ∀ (kV doc pm : Value) (an : Option Addr) (cdv ct : Value) (us : List Value), us.length = ps.length → bindArgs (PySem.W.fnOf x x (defArgs st) (defBody st) (defScope st) .none kV doc pm an cdv ct) ⟨us, []⟩ = pure (ps.zip us)) : DefAt2 K mg y x st ps := by
  have F := fun_mk (st := st) l c k
  exact ⟨f, _, F, PySem.W.mg_of X G a, F.binds hb⟩
end PL
/-! rows: what the day fields and rows read tell, by the program and by the law -/
namespace Rws
open PySem PySem.Spec L2 PL Bits Fld TL Mks
def oneN (l : List Nat) (lo hi : Nat) : Option Nat := (numN l lo hi).head?
def dayM (l : List Nat) : Option Mrk :=
  if l = [76] then some (.last 0) else if l = [76, 87] then some .work else
  match (if cutL l none (some 2) = [76, 45] then oneN (cutL l (some 2) none) 1 30 else none) with
  | some n => some (.last n)
  | none => match (if cutL l (some (-1)) none = [87] then oneN (cutL l none (some (-1))) 1 31 else none) with
    | some n => some (.near n)
    | none => none
def weekMk (l : List Nat) : Option Mrk :=
  match (if cutL l (some (-1)) none = [76] then oneN (cutL l none (some (-1))) 0 7 else none) with
  | some n => some (.lone (n % 7))
  | none => match spl [35] 0 [] l with
    | [a, b] => match oneN a 0 7, oneN b 1 5 with
      | some n, some m => some (.nth (n % 7) m)
      | _, _ => none
    | _ => none
def mkF (wk : Bool) : List Nat → Option Mrk := if wk then weekMk else dayM
def loB (wk : Bool) : Nat := if wk then 0 else 1
def hiB (wk : Bool) : Nat := if wk then 7 else 31
theorem oneN_le {l : List Nat} {lo hi n : Nat} (h : oneN l lo hi = some n) : lo ≤ n ∧ n ≤ hi := numN_mem (List.mem_of_mem_head? h)
/-! the items of a day field -/
def wkMask (m : Nat) : Nat := (m &&& 127) ||| (m >>> 7)
def pl (wk : Bool) (m : Nat) : Mrk := if wk then .wks m else .num m
def nm (wk : Bool) (m : Nat) : Nat := if wk then wkMask m else m
theorem bd_le (wk : Bool) : loB wk ≤ hiB wk ∧ hiB wk < 64 := by cases wk <;> decide
/-! drawn items' texts -/
theorem and_nn (m n : Nat) : Builtin.bitAnd (m : Int) (n : Int) = ((m &&& n : Nat) : Int) := by
  rw [PyProof.Rows.bitAnd_pp (Int.natCast_nonneg _) (Int.natCast_nonneg _)]
  rfl
end Rws
namespace Cal
def isLong (y : Int) : Bool := decide (y % 4 = 0) && (!decide (y % 100 = 0) || decide (y % 400 = 0))
/-- days from day 0 to the year's first -/
def dB (y : Int) : Int := 365 * y + (y + 3) / 4 - (y + 99) / 100 + (y + 399) / 400
abbrev lastsL : List L2.V := [.int 31, .int 28, .int 31, .int 30, .int 31, .int 30, .int 31, .int 31, .int 30, .int 31, .int 30, .int 31]
end Cal
namespace Cal
def yA (d : Int) : Int := d * 400 / 146097
/-- the year of a day -/
def yOf (d : Int) : Int := if d < dB (yA d) then yA d - 1 else if dB (yA d + 1) ≤ d then yA d + 1 else yA d
/-- days of a year ahead of a month -/
def mB (y m : Int) : Int := (if m = 1 then 0 else if m = 2 then 31 else if m = 3 then 59 else if m = 4 then 90 else if m = 5 then 120 else if m = 6 then 151 else if m = 7 then 181 else if m = 8 then 212 else if m = 9 then 243 else if m = 10 then 273 else if m = 11 then 304 else if m = 12 then 334 else 365) + (if 2 < m ∧ isLong y = true then 1 else 0)
/-- the month of a day of the year -/
def mOf (y l : Int) : Int := if l < mB y 2 then 1 else if l < mB y 3 then 2 else if l < mB y 4 then 3 else if l < mB y 5 then 4 else if l < mB y 6 then 5 else if l < mB y 7 then 6 else if l < mB y 8 then 7 else if l < mB y 9 then 8 else if l < mB y 10 then 9 else if l < mB y 11 then 10 else if l < mB y 12 then 11 else 12
def mo (d : Int) : Int := mOf (yOf d) (d - dB (yOf d))
end Cal
/-! moments as texts -/
namespace Mom
open PySem PL Bits TL L2 Fld Cal NumText
def two (n : Nat) : List Nat := [48 + n / 10, 48 + n % 10]
/-! the year -/
/-! a moment's text -/
end Mom
/-! read_field with its refusals; texts that are no items -/
namespace Fld
open PySem PL Bits TL L2
/-- the place of the first wrong one of the first forty items -/
def badAt (its : List (List Nat)) (lo hi : Nat) : Option Nat := (its.take 40).findIdx? fun p => decide (itemN p lo hi = 0)
def fieldR (C : Addr) (l : List Nat) (lo hi : Nat) : Ro :=
  if 300 < l.length then .exc C ["at"] [.int 0] else match badAt (itemsN l) lo hi with
  | some i => .exc C ["at"] [.int (i : Nat)]
  | none => if 40 < (itemsN l).length then .exc C ["at"] [.int 40] else .val (.int (fieldN l lo hi : Nat))
def notTx : D → Bool
  | .v (.str _) => false
  | d => plainD d
def phi_readF (C : Addr) : List D → Ro
  | [d, .v (.int lo), .v (.int hi)] => if 0 ≤ lo ∧ lo ≤ hi ∧ hi < 64 then (match d with
    | .v (.str s) => if s.cps.toList.length ≤ 1000 then fieldR C s.cps.toList lo.toNat hi.toNat else .bad
    | d => if notTx d = true then .exc C ["at"] [.int 0] else .bad) else .bad
  | _ => .bad
theorem readF_tx {C : Addr} {l : List Nat} {lo hi : Nat} (h : lo ≤ hi ∧ hi < 64) (hl : l.length ≤ 1000) : phi_readF C [.tx l, .int (lo : Nat), .int (hi : Nat)] = fieldR C l lo hi := by
  unfold phi_readF
  simp only
  rw [if_pos (by omega), if_pos (by simpa using hl), Int.toNat_natCast, Int.toNat_natCast]
theorem readF_odd {C : Addr} {d : D} {lo hi : Nat} (h : lo ≤ hi ∧ hi < 64) (hd : notTx d = true) : phi_readF C [d, .int (lo : Nat), .int (hi : Nat)] = .exc C ["at"] [.int 0] := by
  unfold phi_readF
  simp only
  rw [if_pos (by omega)]
  split
  · cases hd
  · rw [if_pos hd]
theorem fieldR_long {C : Addr} {l : List Nat} {lo hi : Nat} (h : 300 < l.length) : fieldR C l lo hi = .exc C ["at"] [.int 0] := if_pos h
theorem cut40 (its : List (List Nat)) : cutD (txs its) none (some 40) = (its.take 40).map D.tx := by
  unfold cutD txs
  rw [List.length_map, show HT.sIx its.length 0 none = 0 from rfl, List.drop_zero, Nat.sub_zero, show HT.sIx its.length its.length (some 40) = min 40 its.length by
    unfold HT.sIx
    simp only
    split <;> omega]
  rw [← List.map_take]
  congr 1
  by_cases h : 40 ≤ its.length
  · rw [show min 40 its.length = 40 by omega]
  · rw [show min 40 its.length = its.length by omega, List.take_of_length_le (Nat.le_refl _), List.take_of_length_le (by omega)]
/-- an enumerate loop whose turn may raise, the place among the exception's fields -/
theorem fo_enumX {X : Cx} {W : WX} {tg : PySem.Expr} {body : List Stmt} {α β : Type} {F : α → D} (R : β → List E) (f : β → α → β) (q : α → Bool) {C : Addr} {ns : List Str} (g : Nat → List D) : ∀ {as : List α} {n : Nat} {y : β} (p : β → List α → Prop), p y as →
    (∀ y x r (n : Nat), p y (x :: r) → ∃ ρ1, XG X (R y) tg (.tup [.int (n : Nat), F x]) ρ1 ∧ (q x = true → ∃ ρe, XB X W ρ1 body (.exc C ns (g n) ρe)) ∧ (q x = false → p (f y x) r ∧ XB X W ρ1 body (.nx (R (f y x))))) →
    ∃ o, FoD X W tg body (enL n (as.map F)) (R y) o ∧ match as.findIdx? q with
      | none => o = .nx (R (as.foldl f y))
      | some i => ∃ ρe, o = .exc C ns (g (n + i)) ρe
  | [], n, y, p, h0, h => ⟨_, .nil, rfl⟩
  | x :: as, n, y, p, h0, h => by
    obtain ⟨ρ1, h1, h2, h3⟩ := h y x as n h0
    rw [List.findIdx?_cons]
    cases e : q x with
    | true =>
      obtain ⟨ρe, h4⟩ := h2 e
      rw [if_pos rfl]
      exact ⟨_, .out h1 h4 trivial (by simp) (by simp), ρe, rfl⟩
    | false =>
      obtain ⟨h4, h5⟩ := h3 e
      obtain ⟨o, h6, h7⟩ := fo_enumX R f q g (as := as) (n := n + 1) (y := f y x) p h4 h
      rw [if_neg (by decide)]
      refine ⟨o, .next h1 h5 (.inl rfl) h6, ?_⟩
      cases z : as.findIdx? q with
      | none =>
        rw [z] at h7
        exact h7
      | some i =>
        rw [z] at h7
        simp only [Option.map_some]
        rw [show n + (i + 1) = n + 1 + i by omega]
        exact h7
theorem x_enumX {X : Cx} {W : WX} {P : Program} {w : World} {K : PySem.W.Frag} {mg : Str → Option Value} {base : Heap} {k : Nat} {N : List Str} {nk : List (Str × NameKind)} {tg it : PySem.Expr} {body more : List Stmt} {pos : Pos} {α β : Type} {F : α → D} (B : Bx X P w K mg base k N nk) (S : Bs X W) (R : β → List E) (f : β → α → β) (q : α → Bool) {C : Addr} {ns : List Str} (g : Nat → List D) {as : List α} {y : β} {r0 : Ro} (p : β → List α → Prop)
    (hi : XI X (R y) tg it (enL 0 (as.map F))) (h0 : p y as) (h : ∀ y x r (n : Nat), p y (x :: r) → ∃ ρ1, XG X (R y) tg (.tup [.int (n : Nat), F x]) ρ1 ∧ (q x = true → ∃ ρe, XB X W ρ1 body (.exc C ns (g n) ρe)) ∧ (q x = false → p (f y x) r ∧ XB X W ρ1 body (.nx (R (f y x)))))
    (t : as.findIdx? q = none → ∃ o, XB X W (R (as.foldl f y)) more o ∧ Leads o r0) (hs : ∀ x, foldedSetIterable it X.env x = pure x := by intro _; rfl) :
    ∃ o, XB X W (R y) (.For tg it body [] pos :: more) o ∧ Leads o (match as.findIdx? q with
      | none => r0
      | some i => .exc C ns (g i)) := by
  obtain ⟨o, hf, ho⟩ := fo_enumX R f q g (as := as) (n := 0) (y := y) p h0 h
  cases e : as.findIdx? q with
  | some i =>
    rw [e] at ho
    obtain ⟨ρe, rfl⟩ := ho
    refine ⟨_, x_forX B S hi hf trivial hs, ?_⟩
    rw [Nat.zero_add]
    exact .exc _ _ _ _
  | none =>
    rw [e] at ho
    simp only at ho ⊢
    subst ho
    obtain ⟨o2, h1, h2⟩ := t e
    exact ⟨o2, x_for B S hi hf h1 hs, h2⟩
/-! texts that are no items -/
theorem txs_ix {its : List (List Nat)} {k : Nat} (hk : k < its.length) : atI (txs its) (k : Int) = some (.tx (its.getD k [])) := by
  refine atI_nat ?_
  unfold txs
  rw [List.getElem?_map, List.getD_eq_getElem?_getD, List.getElem?_eq_getElem hk]
  rfl
def gB1 (lo hi : Nat) : List (List Nat) := [numL lo ++ [45] ++ numL (hi + 1), numL (hi + 1), numL (hi + 1) ++ [47, 49]]
def gB2 (lo hi : Nat) : List (List Nat) := [numL hi ++ [45] ++ intL ((lo : Int) - 1), intL ((lo : Int) - 1)]
def gB3 (lo hi : Nat) : List (List Nat) := if lo < hi then [numL hi ++ [45] ++ numL lo] else []
def okW (lo hi : Nat) (t : List Nat) : Bool := decide (itemN t lo hi = 0) && (!t.contains 44 && Nat.ble t.length 60)
abbrev chunkB (a : Nat) : Bool := (List.range 16).all fun i => (List.range 64).all fun hi => !Nat.ble (a + i) hi || (gB1 (a + i) hi ++ gB2 (a + i) hi ++ gB3 (a + i) hi).all (okW (a + i) hi)
end Fld
/-! == of plain values of two sorts, None among them -/
namespace PL
open PySem PySem.Spec L2
open Evl (Ex)
section
variable {X : Cx} {ρ : List E} {a b : Expr} {pos : Pos} {u w : V}
theorem t_eqV (ha : XE X ρ a (.v u)) (hb : XE X ρ b (.v w)) (h : scal u w = true) : XT X ρ (.Compare a [.Eq] [b] pos) (decide (u = w)) := xt_cmp op_eq ha hb (fun _ _ q => ⟨h, q⟩) (nomark _)
theorem t_neV (ha : XE X ρ a (.v u)) (hb : XE X ρ b (.v w)) (h : scal u w = true) : XT X ρ (.Compare a [.NotEq] [b] pos) (!decide (u = w)) := xt_cmp op_ne ha hb (fun _ _ q => ⟨h, q⟩) (nomark _)
end
section
variable {X : Cx} {P : Program} {w : World} {K : PySem.W.Frag} {mg : Str → Option Value} {base : Heap} {k : Nat} {N : List Str} {nk : List (Str × NameKind)} {ρ : List E} {e : Expr} {pos p : Pos}
end
section
variable {X : Cx} {W : WX} {ρ : List E} {tg : Expr} {body : List Stmt}
end
section
variable {X : Cx} {ρ : List E} {a b : Expr} {pos : Pos} {t : List Nat} {ts : List (List Nat)}
end
section
variable {X : Cx} {P : Program} {w : World} {K : PySem.W.Frag} {mg : Str → Option Value} {base : Heap} {k : Nat} {N : List Str} {nk : List (Str × NameKind)} {ρ : List E} {a b c tg : Expr} {pos p : Pos}
end
section
variable {X : Cx} {W : WX} {P : Program} {w : World} {K : PySem.W.Frag} {mg : Str → Option Value} {base : Heap} {k : Nat} {N : List Str} {nk : List (Str × NameKind)} {ρ ρ2 : List E} {a b c tg it : Expr} {body more : List Stmt} {pos p : Pos} {o o2 : Out} {ds : List D}
theorem xv_orT {v : Bool} {rest : List Expr} (h : XT X ρ a v) (hv : v = true) : XV X ρ (.BoolOp .Or (a :: b :: rest) pos) true := by
  subst hv
  exact xv_or (k := true) h fun q => nomatch q
end
section
open PyProof.Rows
variable {X : Cx} {CX : CXT} {k k' n : Nat} {f u : Addr} {sp : Sp} {E0 : XK} {fe e : Expr} {es : List Expr} {t : TA} {tf : TE} {p pos : Pos}
/-- fe(e, ..), fe any expression that gives a def -/
theorem pe_callFx (hf : PE X fe tf) (F : FnR X.prog X.w X.K X.mg X.base CX k f sp) (hr : Room k X.A) (hk : PySem.W.keepIn X.K (.ref f) = true) (hx : Passes CX X E0) (ha : PA X (e :: es) t)
    (ht : eval (.Call fe (e :: es) [] pos) X.env = (do callWith pos (← eval fe X.env) [] (backTo pos (starEach (e :: es) X.env)) (backToKw pos (keywordEach [] X.env))) := by rfl)
    (he : starEach (e :: es) X.env = (false, eval e X.env) :: starEach es X.env := by rfl) (hpl : (backTo pos (starEach es X.env)).any (·.1) = false := by rfl) : PE X (.Call fe (e :: es) [] pos) (fun σ H Q => tf σ H fun y H1 => y = .ref f ∧ t σ H1 fun vs H2 => sp vs H2 Q E0) := by
  refine ⟨fun pins s σ H Q I h => ?_⟩
  refine Call_ (thn (hf.run pins s σ H _ I h) fun u s1 ⟨y, H1, I1, ry, ey, q⟩ => ?_) ht
  subst ey
  obtain rfl : u = Value.ref f := ry
  refine PySem.W.callWith_K (h₀ := X.base) I1.ok.mod.kin hk (thn (ha.run pos pins s1 σ H1 _ I1 q) fun us s2 ⟨vs, H2, I2, r, q2⟩ => ⟨I2.kIn, ?_⟩) he hpl
  exact wpAny_call (run_fnR F hr hx I2 r q2)
variable {P : Program} {w : World} {K : PySem.W.Frag} {mg : Str → Option Value} {base : Heap} {N : List Str} {nk : List (Str × NameKind)} {ρ : List E} {d : D} {ds : List D} {φ : List D → Ro}
theorem x_callFx (B : Bx X P w K mg base k N nk) (h : FnA P w K mg base u k' n φ) (hf : XE X ρ fe (.v (.ref u))) (ha : XA X ρ (e :: es) ds) (hφ : φ ds = .val d) (hk : k' ≤ k := by decide) (hn : ds.length = n := by rfl)
    (ht : eval (.Call fe (e :: es) [] pos) X.env = (do callWith pos (← eval fe X.env) [] (backTo pos (starEach (e :: es) X.env)) (backToKw pos (keywordEach [] X.env))) := by rfl)
    (he : starEach (e :: es) X.env = (false, eval e X.env) :: starEach es X.env := by rfl) (hpl : (backTo pos (starEach es X.env)).any (·.1) = false := by rfl) : XE X ρ (.Call fe (e :: es) [] pos) d := by
  obtain ⟨fd, ps, F, hkp, hb⟩ := h.ex
  have F2 : FnOk X.prog X.w X.K X.mg X.base (L2N.CX X.prog X.w) k' u fd ps (spD X.K n φ) := by
    rw [B.hP, B.hw, B.hK, B.hm, B.hb]
    exact F
  refine PE.imp (pe_callFx hf (F2.raw (by rw [B.hK]; exact hb) .nil) (B.room.mono hk) (by rw [B.hK]; exact hkp) (passN (X := X)) ha ht he hpl) fun σ H Q ⟨Bv, Bs, Hv, g, k⟩ => ⟨Bv, Bs, Hv, g, fun v H0 Hv0 g0 e0 r0 => ?_⟩
  refine ⟨rp_v r0, Bv, Bs, Hv0, g0, fun vs H1 Hv1 g1 e1 r1 => ?_⟩
  refine ⟨Hv1, ds, g1.vx.vh, by rw [List.append_nil]; exact r1, hn, ?_⟩
  rw [hφ]
  exact fun v H' Hv' x r => k v H' Hv' (g1.go x) (e0.trans (e1.trans x)) r
end
end PL
/-! exceptions, further: loops whose turns may raise, operands and told defs that raise -/
namespace PL
open PySem PySem.Spec L2
open Evl (Ex)
/-- a new list as data -/
def noXF (φ : List D → Ro) : List D → Ro := fun ds => match φ ds with
  | .exc _ _ _ => .bad
  | .fr l => .val (.lst l)
  | r => r
def vfR : Ro → Ro
  | .fr l => .val (.lst l)
  | r => r
theorem noXF_of {φ : List D → Ro} {ds : List D} {r : Ro} (h : φ ds = r) (q : isX r := by trivial) : noXF φ ds = vfR r := by
  unfold noXF
  rw [h]
  cases r <;> first | rfl | exact q.elim
theorem finR_noXF {K : PySem.W.Frag} {Hv H : Hp} {Q : VK} {E E' : XK} {φ : List D → Ro} {ds : List D} (h : FinR K Hv H Q E (noXF φ ds)) : FinR K Hv H Q E' (φ ds) := by
  unfold noXF at h
  generalize φ ds = r at h
  cases r with
  | exc => exact h.elim
  | fr l => exact fun p xs H' Hv' hx h1 h2 h3 hr => h (.ref p) H' (upd Hv' p (.lst xs)) (hx.freeze h2 h3 h1) (by
      unfold Rp
      exact ⟨p, xs, rfl, .inl (.inl upd_same), rpL_mono (Ex.new h2) hr⟩)
  | _ => exact h
structure FnAL (P : Program) (w : World) (K : PySem.W.Frag) (mg : Str → Option Value) (base : Heap) (u : Addr) (k n : Nat) (φ : List D → Ro) : Prop where
  ex : ∃ fd ps, FnOk P w K mg base (L2.CX P w) k u fd ps (spD K n φ) ∧ PySem.W.keepIn K (.ref u) = true ∧ Binds K fd ps []
section
variable {P : Program} {w : World} {K : PySem.W.Frag} {mg : Str → Option Value} {base : Heap} {s : Str} {u : Addr} {k n : Nat} {φ : List D → Ro}
theorem FnL.addr (F : FnL P w K mg base s k n φ) : ∃ u, mg s = some (.ref u) ∧ FnAL P w K mg base u k n φ := by
  obtain ⟨f, fd, ps, h1, h2, h3, h4⟩ := F.ex
  exact ⟨f, h1, fd, ps, h2, h3, h4⟩
theorem FnAL.nf (F : FnAL P w K mg base u k n φ) : FnA P w K mg base u k n (noXF φ) := by
  obtain ⟨fd, ps, h2, h3, h4⟩ := F.ex
  refine ⟨fd, ps, ⟨fun vs H Q E ⟨Hv, ds, e, r, hl, q⟩ => h2.len vs H Q E0 ⟨Hv, ds, e, r, hl, finR_noXF q⟩, fun A outer s H args us vs Q E hr he hb hv ⟨Hv, ds, e, r, hl, q⟩ => ?_⟩, h3, h4⟩
  refine codeAny_mono (h2.run A outer s H args us vs Q E0 hr he hb hv ⟨Hv, ds, e, r, hl, finR_noXF q⟩) fun r s' hq => ?_
  cases r with
  | ok fl => cases fl <;> exact hq
  | error er =>
    obtain ⟨_, _, _, _, _, _, _, _, _, _, _, _, z⟩ := hq
    exact z.elim
end
section
open PyProof.Rows
variable {X : Cx} {cxt : CXT} {k k' n : Nat} {f u : Addr} {fd : FuncData} {ps : List Str} {sp : Sp} {E : L2.St → XK} {fe e : Expr} {es : List Expr} {t : TA} {tf : TE} {p pos : Pos}
theorem pe_callFxS (hf : PE X fe tf) (F : FnOk X.prog X.w X.K X.mg X.base cxt k f fd ps sp) (hr : Room k X.A) (hk : PySem.W.keepIn X.K (.ref f) = true) (bi : Binds X.K fd ps []) (hx : ∀ σ, PassesAt cxt X σ (E σ)) (ha : PA X (e :: es) t)
    (ht : eval (.Call fe (e :: es) [] pos) X.env = (do callWith pos (← eval fe X.env) [] (backTo pos (starEach (e :: es) X.env)) (backToKw pos (keywordEach [] X.env))) := by rfl)
    (he : starEach (e :: es) X.env = (false, eval e X.env) :: starEach es X.env := by rfl) (hpl : (backTo pos (starEach es X.env)).any (·.1) = false := by rfl) : PE X (.Call fe (e :: es) [] pos) (fun σ H Q => tf σ H fun y H1 => y = .ref f ∧ t σ H1 fun vs H2 => sp vs H2 Q (E σ)) := by
  refine ⟨fun pins s σ H Q I h => Call_ (thn (hf.run pins s σ H _ I h) fun v0 s1 h1 => ?_) ht⟩
  obtain ⟨y, H1, I1, ry, ey, q⟩ := h1
  subst ey
  obtain rfl : v0 = Value.ref f := ry
  refine PySem.W.callWith_K (h₀ := X.base) I1.ok.mod.kin hk (thn (ha.run pos pins s1 σ H1 _ I1 q) fun us s2 h2 => ?_) he hpl
  obtain ⟨vs, H2, I2, r, q2⟩ := h2
  refine ⟨I2.kIn, ?_⟩
  have b := bi s2 us I2.kIn (by rw [List.append_nil, ← r.length]; exact F.len _ _ _ _ q2)
  rw [List.append_nil] at b
  refine wpAny_call (codeAny_mono (F.run X.A X.stack s2 H2 ⟨us, []⟩ us vs Q (E σ) hr I2.env0 b r q2) fun r s3 out => ?_)
  match r, out with
  | .ok (.ret v), out => exact I2.after out
  | .ok .next, out => exact out.elim
  | .ok .brk, out => exact out.elim
  | .ok .cont, out => exact out.elim
  | .error er, out => exact hx σ pins H2 s2 er s3 I2 out
end
section
variable {X : Cx} {P : Program} {w : World} {K : PySem.W.Frag} {mg : Str → Option Value} {base : Heap} {k k' n : Nat} {N : List Str} {nk : List (Str × NameKind)} {W : WX}
variable {ρ ρ' ρ1 ρ2 : List E} {e a b c tg fe : Expr} {es : List Expr} {d f : D} {ds l m : List D} {pos p p' : Pos} {s : Str} {o o1 : Out} {kd : NameKind} {φ : List D → Ro} {body sts other more : List Stmt} {st : Stmt} {Bo : Bool} {C F u : Addr} {ns : List Str} {xs : List D}
theorem x_callFxX (B : Bx X P w K mg base k N nk) (T : L2.Takes X W) (h : FnAL P w K mg base u k' n φ) (hf : XE X ρ fe (.v (.ref u))) (ha : XA X ρ (e :: es) ds) (hφ : φ ds = .exc C ns xs) (hk : k' ≤ k := by decide) (hn : ds.length = n := by rfl)
    (ht : eval (.Call fe (e :: es) [] pos) X.env = (do callWith pos (← eval fe X.env) [] (backTo pos (starEach (e :: es) X.env)) (backToKw pos (keywordEach [] X.env))) := by rfl)
    (he : starEach (e :: es) X.env = (false, eval e X.env) :: starEach es X.env := by rfl) (hpl : (backTo pos (starEach es X.env)).any (·.1) = false := by rfl) : XX X W ρ (.Call fe (e :: es) [] pos) C ns xs := by
  obtain ⟨fd, ps, Fo, hkp, hb⟩ := h.ex
  have h1 := B.hP; have h2 := B.hw; have h3 := B.hK; have h4 := B.hm; have h5 := B.hb
  subst h1 h2 h3 h4 h5
  refine PE.imp (pe_callFxS hf Fo (B.room.mono hk) hkp hb (fun σ => L2.passAt T σ) ha ht he hpl) fun σ H Q ⟨Bv, Bs, Hv, g, kk⟩ => ⟨Bv, Bs, Hv, g, fun v H0 Hv0 g0 e0 r0 => ?_⟩
  refine ⟨rp_v r0, Bv, Bs, Hv0, g0, fun vs H1 Hv1 g1 e1 r1 => ?_⟩
  refine ⟨Hv1, ds, g1.vx.vh, r1, hn, ?_⟩
  rw [hφ]
  exact fun od H' Hv' x r => kk od H' Hv' (g1.go x) r
/-- a | b where b raises -/
theorem x_orX (ha : XE X ρ a d) (hb : XX X W ρ b C ns xs) : XX X W ρ (.BinOp a .BitOr b pos) C ns xs :=
  PE.imp (pe_op op_or ha hb) fun σ H Q ⟨Bv, Bs, Hv, g, kk⟩ => ⟨Bv, Bs, Hv, g, fun v1 H1 Hv1 g1 e1 r1 => ⟨Bv, Bs, Hv1, g1, fun od H' Hv' g' x => kk od H' Hv' g' x⟩⟩
/-- a, b = e where e raises -/
theorem x_asgXX (h : XX X W ρ e C ns xs) (hs : swapsWithSole [tg] e pos.line X.env = pure false := by rfl) (hw : swappedStores [tg] e X.env = pure none := by rfl) (h1 : (assignEach [tg] X.env).map (·.2) = [assign tg X.env] := by rfl) : XB X W ρ (.Assign [tg] e pos :: more) (.exc C ns xs ρ) :=
  xb_stop (xs_asgX h (pg_any tg) hs hw h1) trivial
/-- a fold whose turn may raise -/
def foldX {α β γ : Type} (f : β → α → β ⊕ γ) : List α → β → β ⊕ γ
  | [], y => .inl y
  | x :: r, y => match f y x with
    | .inl y' => foldX f r y'
    | .inr q => .inr q
theorem fo_X {α β γ : Type} {G : α → D} (R : β → List E) (f : β → α → β ⊕ γ) (ex : γ → Ro) (p : β → List α → Prop) : ∀ {as : List α} {y : β}, p y as →
    (∀ y x r, p y (x :: r) → ∃ ρ1, XG X (R y) tg (G x) ρ1 ∧ match f y x with
      | .inl y' => p y' r ∧ XB X W ρ1 body (.nx (R y'))
      | .inr q => ∃ C ns ds ρe, ex q = .exc C ns ds ∧ XB X W ρ1 body (.exc C ns ds ρe)) →
    ∃ o, FoD X W tg body (as.map G) (R y) o ∧ match foldX f as y with
      | .inl y' => p y' [] ∧ o = .nx (R y')
      | .inr q => ∃ C ns ds ρe, ex q = .exc C ns ds ∧ o = .exc C ns ds ρe
  | [], y, h0, h => ⟨_, .nil, h0, rfl⟩
  | x :: r, y, h0, h => by
    obtain ⟨ρ1, h1, h2⟩ := h y x r h0
    unfold foldX
    cases e : f y x with
    | inl y' =>
      rw [e] at h2
      obtain ⟨o, h3, h4⟩ := fo_X R f ex p (as := r) (y := y') h2.1 h
      exact ⟨o, .next h1 h2.2 (.inl rfl) h3, h4⟩
    | inr q =>
      rw [e] at h2
      obtain ⟨C, ns, ds, ρe, hq, h3⟩ := h2
      exact ⟨_, .out h1 h3 trivial (by simp) (by simp), C, ns, ds, ρe, hq, rfl⟩
theorem x_forL {α β γ : Type} {G : α → D} {it : Expr} (B : Bx X P w K mg base k N nk) (S : Bs X W) (R : β → List E) (f : β → α → β ⊕ γ) (ex : γ → Ro) (p : β → List α → Prop) {as : List α} {y : β} {r : β → Ro} (hi : XI X (R y) tg it (as.map G)) (h0 : p y as)
    (h : ∀ y x r, p y (x :: r) → ∃ ρ1, XG X (R y) tg (G x) ρ1 ∧ match f y x with
      | .inl y' => p y' r ∧ XB X W ρ1 body (.nx (R y'))
      | .inr q => ∃ C ns ds ρe, ex q = .exc C ns ds ∧ XB X W ρ1 body (.exc C ns ds ρe))
    (t : ∀ y', p y' [] → foldX f as y = .inl y' → ∃ o, XB X W (R y') more o ∧ Leads o (r y')) (hs : ∀ x, foldedSetIterable it X.env x = pure x := by intro _; rfl) :
    ∃ o, XB X W (R y) (.For tg it body [] pos :: more) o ∧ Leads o (Sum.elim r ex (foldX f as y)) := by
  obtain ⟨o, h1, h2⟩ := fo_X R f ex p h0 h
  cases e : foldX f as y with
  | inl y' =>
    rw [e] at h2
    obtain ⟨h3, rfl⟩ := h2
    obtain ⟨o2, h4, h5⟩ := t y' h3 e
    exact ⟨o2, x_for B S hi h1 h4 hs, h5⟩
  | inr q =>
    rw [e] at h2
    obtain ⟨C, ns, ds, ρe, hq, rfl⟩ := h2
    refine ⟨_, x_forX B S hi h1 trivial hs, ?_⟩
    show Leads _ (ex q)
    rw [hq]
    exact .exc _ _ _ _
end
end PL
/-! texts of days refused: the place of the first wrong item -/
namespace Rws
open PySem PySem.Spec L2 PL Bits Fld TL Mks Dig
/-- a plain item that is told -/
def okP (wk : Bool) (p : List Nat) : Bool := Nat.ble p.length 300 && ((badAt (itemsN p) (loB wk) (hiB wk)).isNone && Nat.ble (itemsN p).length 40)
theorem okP_val {C : Addr} {wk : Bool} {p : List Nat} (h : okP wk p = true) : fieldR C p (loB wk) (hiB wk) = .val (.int (fieldN p (loB wk) (hiB wk) : Nat)) := by
  unfold okP at h
  simp only [Bool.and_eq_true, Nat.ble_eq, Option.isNone_iff_eq_none] at h
  unfold fieldR
  rw [if_neg (by omega), h.2.1]
  simp only
  rw [if_neg (by omega)]
theorem okP_exc {C : Addr} {wk : Bool} {p : List Nat} (h : okP wk p = false) : ∃ i : Int, fieldR C p (loB wk) (hiB wk) = .exc C ["at"] [.int i] := by
  unfold fieldR
  by_cases h1 : 300 < p.length
  · exact ⟨0, if_pos h1⟩
  · rw [if_neg h1]
    cases e : badAt (itemsN p) (loB wk) (hiB wk) with
    | some i => exact ⟨(i : Nat), rfl⟩
    | none =>
      simp only
      by_cases h2 : 40 < (itemsN p).length
      · exact ⟨40, if_pos h2⟩
      · unfold okP at h
        rw [e, Nat.ble_eq.mpr (show p.length ≤ 300 by omega), Nat.ble_eq.mpr (show (itemsN p).length ≤ 40 by omega)] at h
        cases h
/-- one item read; the place where it is wrong -/
def scanF (wk : Bool) (its : List (List Nat)) (y : Nat × List Mrk) (k : Nat) : (Nat × List Mrk) ⊕ Nat := match mkF wk (its.getD k []) with
  | none => if okP wk (its.getD k []) = true then .inl (y.1 ||| fieldN (its.getD k []) (loB wk) (hiB wk), y.2) else .inr k
  | some m => if y.2.length = 20 then .inr k else .inl (y.1, y.2 ++ [m])
def scanX (wk : Bool) (its : List (List Nat)) : (Nat × List Mrk) ⊕ Nat := match foldX (scanF wk its) (List.range (min 40 its.length)) (0, []) with
  | .inl y => if 40 < its.length then .inr 40 else .inl y
  | .inr k => .inr k
def readX (wk : Bool) (l : List Nat) : (Nat × List Mrk) ⊕ Nat := if 300 < l.length then .inr 0 else scanX wk (itemsN l)
def placeO {β : Type} : β ⊕ Nat → Option Nat
  | .inl _ => none
  | .inr k => some k
def isMk (t : List Nat) : Bool := t.contains 76 || (t.contains 87 || t.contains 35)
/-- an item that is right, or wrong -/
def iok (wk : Bool) (p : List Nat × Bool) : Bool := !p.1.contains 44 && (Nat.ble p.1.length 8 && (bif p.2 then (bif isMk p.1 then (mkF wk p.1).isSome else (mkF wk p.1).isNone && okP wk p.1) else (mkF wk p.1).isNone && !okP wk p.1))
def dueF (ps : List (List Nat × Bool)) (m k : Nat) : Nat ⊕ Nat :=
  let q := ps.getD k ([], false)
  let m' := if (q.2 && isMk q.1) = true then m + 1 else m
  if (!q.2 || decide (20 < m')) = true then .inr k else .inl m'
def dueX (ps : List (List Nat × Bool)) : Option Nat := if 300 < (joinL [44] (ps.map (·.1))).length then some 0 else match foldX (dueF ps) (List.range (min 40 ps.length)) 0 with
  | .inl _ => if 40 < ps.length then some 40 else none
  | .inr k => some k
theorem iok_inv {wk : Bool} {p : List Nat × Bool} (h : iok wk p = true) : 44 ∉ p.1 ∧ p.1.length ≤ 8 ∧ (p.2 = true → (isMk p.1 = true ∧ ∃ m, mkF wk p.1 = some m) ∨ (isMk p.1 = false ∧ mkF wk p.1 = none ∧ okP wk p.1 = true)) ∧ (p.2 = false → mkF wk p.1 = none ∧ okP wk p.1 = false) := by
  unfold iok at h
  rw [Bool.and_eq_true, Bool.and_eq_true, Bool.not_eq_true', Nat.ble_eq] at h
  refine ⟨by simpa using h.1, h.2.1, fun e => ?_, fun e => ?_⟩
  · have h3 := h.2.2
    rw [e, cond_true] at h3
    cases e2 : isMk p.1 with
    | true =>
      rw [e2, cond_true] at h3
      exact .inl ⟨rfl, Option.isSome_iff_exists.mp h3⟩
    | false =>
      rw [e2, cond_false, Bool.and_eq_true, Option.isNone_iff_eq_none] at h3
      exact .inr ⟨rfl, h3⟩
  · have h3 := h.2.2
    rw [e, cond_false, Bool.and_eq_true, Option.isNone_iff_eq_none, Bool.not_eq_true'] at h3
    exact h3
theorem scan_due {wk : Bool} {ps : List (List Nat × Bool)} (hp : ∀ p ∈ ps, iok wk p = true) : ∀ (as : List Nat) (y : Nat × List Mrk) (m : Nat), (∀ k ∈ as, k < ps.length) → y.2.length = m → m ≤ 20 → placeO (foldX (scanF wk (ps.map (·.1))) as y) = placeO (foldX (dueF ps) as m)
  | [], y, m, _, _, _ => rfl
  | k :: as, y, m, hk, hm, h20 => by
    have hlt := hk k List.mem_cons_self
    have e1 : (ps.map (·.1)).getD k [] = (ps.getD k ([], false)).1 := by
      rw [List.getD_eq_getElem?_getD, List.getD_eq_getElem?_getD, List.getElem?_map, List.getElem?_eq_getElem hlt]
      rfl
    have hmem : ps.getD k ([], false) ∈ ps := by
      rw [List.getD_eq_getElem?_getD, List.getElem?_eq_getElem hlt]
      exact List.getElem_mem hlt
    obtain ⟨-, -, h1, h2⟩ := iok_inv (hp _ hmem)
    unfold foldX scanF dueF
    rw [e1]
    simp only
    generalize ps.getD k ([], false) = q at h1 h2 ⊢
    obtain ⟨t, g⟩ := q
    simp only at h1 h2 ⊢
    cases g with
    | true =>
      rcases h1 rfl with ⟨h3, mm, h4⟩ | ⟨h3, h4, h5⟩
      · rw [h4, h3]
        simp only [Bool.and_self, if_true, Bool.not_true, Bool.false_or, decide_eq_true_eq]
        by_cases z : m = 20
        · rw [if_pos (hm.trans z), if_pos (by omega)]
          rfl
        · rw [if_neg (by rw [hm]; exact z), if_neg (by omega)]
          simp only
          exact scan_due hp as _ _ (fun k hk' => hk k (List.mem_cons_of_mem _ hk')) (by show (y.2 ++ [mm]).length = _; rw [List.length_append, hm]; rfl) (by omega)
      · rw [h4, h3, h5]
        simp only [Bool.and_false, Bool.false_eq_true, if_false, if_true, Bool.not_true, Bool.false_or, decide_eq_true_eq]
        rw [if_neg (by omega)]
        simp only
        exact scan_due hp as _ _ (fun k hk' => hk k (List.mem_cons_of_mem _ hk')) hm h20
    | false =>
      obtain ⟨h3, h4⟩ := h2 rfl
      rw [h3, h4]
      simp only [Bool.not_false, Bool.true_or, if_true, Bool.false_eq_true, if_false]
      rfl
theorem read_due {wk : Bool} {ps : List (List Nat × Bool)} (hp : ∀ p ∈ ps, iok wk p = true) (ne : ps ≠ []) : placeO (readX wk (joinL [44] (ps.map (·.1)))) = dueX ps := by
  have ne' : ps.map (·.1) ≠ [] := fun e => ne (List.map_eq_nil_iff.mp e)
  have hf : ∀ t ∈ ps.map (·.1), 44 ∉ t := fun t ht => by
    obtain ⟨q, hq, rfl⟩ := List.mem_map.mp ht
    exact (iok_inv (hp q hq)).1
  unfold readX dueX
  split
  · rfl
  · rw [items_join ne' hf]
    unfold scanX
    rw [List.length_map]
    have := scan_due hp (List.range (min 40 ps.length)) (0, []) 0 (fun k hk => by have := List.mem_range.mp hk; omega) rfl (by decide)
    revert this
    cases foldX (scanF wk (ps.map (·.1))) (List.range (min 40 ps.length)) (0, []) <;> cases foldX (dueF ps) (List.range (min 40 ps.length)) 0 <;> intro this
    · simp only
      split <;> rfl
    · cases this
    · cases this
    · exact this
/-! the items drawn -/
def rightL (wk mk : Bool) : List (List Nat) := bif mk then (bif wk then [[53, 76], [48, 35, 49], [55, 76], [55, 35, 53], [54, 76], [51, 35, 51]] else [[76], [76, 87], [76, 45, 51, 48], [51, 49, 87], [49, 87], [76, 45, 49]])
  else bif wk then [[48], [55], [49, 45, 53], [42, 47, 50], [53, 47, 50], [42], [48, 45, 55]] else [[49], [51, 49], [50, 45, 57], [42, 47, 57], [49, 47, 50], [42], [51, 48, 45, 51, 49]]
def rightT (wk mk : Bool) (t : Nat) : List Nat := (rightL wk mk).getD (t % (bif mk then 6 else 7)) []
def wrongA : List (List Nat) := [[], [32], [42, 42], [49, 45], [45, 49], [53, 45, 52], [49, 47, 48], [49, 47, 49, 48, 48], [48, 49], [49, 47, 48, 53], [120], [49, 45, 45, 50], [47, 50], [49, 47, 50, 47, 51], [108], [108, 119]] ++
  [[53, 46], [76, 42], [76, 76], [76, 47, 50], [49, 32], [32, 49], [42, 47], [49, 45, 50, 45, 51], [87], [35, 49], [49, 35], [43, 49], [76, 45], [49, 53, 119], [53, 108], [49, 95, 48]]
def wrongB (wk : Bool) : List (List Nat) := bif wk then [[56], [48, 45, 56], [56, 76], [53, 35, 48], [53, 35, 54], [56, 35, 49], [76], [76, 87], [49, 87], [48, 53, 76], [53, 35, 48, 49], [49, 76, 47, 50], [54, 45, 48]]
  else [[48], [51, 50], [48, 45, 53], [51, 48, 45, 51, 50], [76, 45, 48], [76, 45, 51, 49], [76, 45, 48, 49], [48, 87], [51, 50, 87], [48, 49, 87], [53, 76], [49, 35, 49], [76, 45, 87]]
def wrongI (wk : Bool) (t : Nat) : List Nat := (wrongA ++ wrongB wk).getD t []
theorem right_chk : ([true, false].all fun wk => [true, false].all fun mk => (rightL wk mk).all fun t => iok wk (t, true)) = true := by decide +kernel
theorem wrong_chk : ([true, false].all fun wk => (wrongA ++ wrongB wk).all fun t => iok wk (t, false)) = true := by decide +kernel
theorem right_ok (wk mk : Bool) (t : Nat) : iok wk (rightT wk mk t, true) = true := by
  have h := List.all_eq_true.mp (List.all_eq_true.mp (List.all_eq_true.mp right_chk wk (by cases wk <;> decide)) mk (by cases mk <;> decide))
  refine h _ ?_
  unfold rightT
  have hl : t % (bif mk then 6 else 7) < (rightL wk mk).length := by
    cases mk <;> cases wk <;> exact Nat.mod_lt _ (by decide)
  rw [List.getD_eq_getElem?_getD, List.getElem?_eq_getElem hl]
  exact List.getElem_mem hl
theorem wrong_ok' (wk : Bool) {t : Nat} (ht : t < 45) : iok wk (wrongI wk t, false) = true := by
  have h := List.all_eq_true.mp (List.all_eq_true.mp wrong_chk wk (by cases wk <;> decide))
  refine h _ ?_
  unfold wrongI
  have hl : t < (wrongA ++ wrongB wk).length := by cases wk <;> exact ht
  rw [List.getD_eq_getElem?_getD, List.getElem?_eq_getElem hl]
  exact List.getElem_mem hl
def mk0 (share k t : Nat) : Bool := decide (k < 30) && decide (t / 7 < share)
def itI (wk : Bool) (share : Nat) (kt : Nat × Nat) : List Nat × Bool := (rightT wk (mk0 share kt.1 kt.2) kt.2, true)
/-- the items: those drawn, wrong ones put in, more behind -/
def its1 (wk : Bool) (share : Nat) (ts : List Nat) : List (List Nat × Bool) := (ts.zipIdx.map fun kt => itI wk share (kt.2, kt.1))
def its2 (wk : Bool) (share : Nat) (ts : List Nat) (n p5 p6 p7 p8 : Nat) : List (List Nat × Bool) := (List.range n).foldl (fun l k => l.set ((if k = 0 then p5 else p6) % ts.length) (wrongI wk (if k = 0 then p7 else p8), false)) (its1 wk share ts)
def its3 (wk : Bool) (share : Nat) (ts : List Nat) (n p5 p6 p7 p8 p9 : Nat) : List (List Nat × Bool) :=
  its2 wk share ts n p5 p6 p7 p8 ++ (if p9 = 5 then List.replicate 80 ([49, 45, 50], true) else if p9 = 6 then (List.replicate 45 [([49], true), (rightT wk true 0, true)]).flatten else [])
theorem more_chk : ([true, false].all fun wk => iok wk ([49, 45, 50], true) && (iok wk ([49], true) && iok wk (rightT wk true 0, true))) = true := by decide +kernel
theorem its1_ok {wk : Bool} {share : Nat} {ts : List Nat} : ∀ p ∈ its1 wk share ts, iok wk p = true := fun p hp => by
  obtain ⟨q, _, rfl⟩ := List.mem_map.mp hp
  exact right_ok _ _ _
theorem its1_len {wk : Bool} {share : Nat} {ts : List Nat} : (its1 wk share ts).length = ts.length := by
  unfold its1
  rw [List.length_map, List.length_zipIdx]
theorem its2_ok {wk : Bool} {share : Nat} {ts : List Nat} {n p5 p6 p7 p8 : Nat} (h7 : p7 < 45) (h8 : p8 < 45) : (∀ p ∈ its2 wk share ts n p5 p6 p7 p8, iok wk p = true) ∧ (its2 wk share ts n p5 p6 p7 p8).length = ts.length := by
  unfold its2
  have : ∀ (as : List Nat) (l : List (List Nat × Bool)), (∀ p ∈ l, iok wk p = true) ∧ l.length = ts.length → (∀ p ∈ as.foldl (fun l k => l.set ((if k = 0 then p5 else p6) % ts.length) (wrongI wk (if k = 0 then p7 else p8), false)) l, iok wk p = true) ∧ (as.foldl (fun l k => l.set ((if k = 0 then p5 else p6) % ts.length) (wrongI wk (if k = 0 then p7 else p8), false)) l).length = ts.length := by
    intro as
    induction as with
    | nil => exact fun l h => h
    | cons k as ih =>
      intro l h
      rw [List.foldl_cons]
      refine ih _ ⟨fun p hp => ?_, by rw [List.length_set]; exact h.2⟩
      rcases List.mem_or_eq_of_mem_set hp with hp | rfl
      · exact h.1 p hp
      · exact wrong_ok' wk (by split <;> assumption)
  exact this _ _ ⟨its1_ok, its1_len⟩
theorem its3_ok {wk : Bool} {share : Nat} {ts : List Nat} {n p5 p6 p7 p8 p9 : Nat} (h7 : p7 < 45) (h8 : p8 < 45) : (∀ p ∈ its3 wk share ts n p5 p6 p7 p8 p9, iok wk p = true) ∧ ts.length ≤ (its3 wk share ts n p5 p6 p7 p8 p9).length ∧ (its3 wk share ts n p5 p6 p7 p8 p9).length ≤ ts.length + 90 := by
  obtain ⟨h1, h2⟩ := its2_ok (wk := wk) (share := share) (ts := ts) (n := n) (p5 := p5) (p6 := p6) h7 h8
  have hm := List.all_eq_true.mp more_chk wk (by cases wk <;> decide)
  rw [Bool.and_eq_true, Bool.and_eq_true] at hm
  unfold its3
  refine ⟨fun p hp => ?_, by rw [List.length_append]; omega, ?_⟩
  · rcases List.mem_append.mp hp with hp | hp
    · exact h1 p hp
    · split at hp
      · rw [List.eq_of_mem_replicate hp]
        exact hm.1
      · split at hp
        · obtain ⟨l, hl, hp⟩ := List.mem_flatten.mp hp
          rw [List.eq_of_mem_replicate hl] at hp
          simp only [List.mem_cons, List.not_mem_nil, or_false] at hp
          rcases hp with rfl | rfl
          · exact hm.2.1
          · exact hm.2.2
        · simp at hp
  · rw [List.length_append, h2]
    split
    · rw [List.length_replicate]
      omega
    · split
      · simp
      · simp
theorem join_le8 {ps : List (List Nat × Bool)} {wk : Bool} (hp : ∀ p ∈ ps, iok wk p = true) : ((ps.map (·.1)).map (·.length)).sum ≤ 8 * ps.length := by
  have := sum_le (c := 8) (ts := ps.map (·.1)) fun t ht => by
    obtain ⟨q, hq, rfl⟩ := List.mem_map.mp ht
    exact (iok_inv (hp q hq)).2.1
  rwa [List.length_map] at this
end Rws
/-! == of a dict and a text -/
namespace PL
open PySem PySem.Spec L2 PySem.SeqAt
open AutoSeq1 (wpAny_loadPart')
open MeetsSeq MeetsSeq2 MeetsSeq3 SeqRoads2
theorem dict_not_str (l : Addr) (es : Array DictEntry) (ep : Nat) (b : Str) (u : Tok) :
    Meets (Builtin.«dict.__eq__» ⟨[.ref l, .str b u], []⟩) (fun _ R s => s.heap.get? l = some { cls := .type "dict", data := .dict es ep } ∧ R (.ok (.ret .notImplemented)) s) :=
  .of_wp fun prog w A R s h => by
    obtain ⟨hp, g, d, tk, os⟩ := s
    obtain ⟨hl, hr⟩ := h
    have f1 := F.sub_str_dict
    wp_walk using wpAny_loadPart' hl
    exact ⟨_, rfl, hr⟩
theorem str_not_dict (l : Addr) (es : Array DictEntry) (ep : Nat) (b : Str) (u : Tok) :
    Meets (Builtin.«str.__eq__» ⟨[.str b u, .ref l], []⟩) (fun _ R s => s.heap.get? l = some { cls := .type "dict", data := .dict es ep } ∧ R (.ok (.ret .notImplemented)) s) :=
  .of_wp fun prog w A R s h => by
    obtain ⟨hp, g, d, tk, os⟩ := s
    obtain ⟨hl, hr⟩ := h
    wp_walk using wpAny_loadPart' hl, wpAny_load hl
    exact ⟨_, rfl, hr⟩
theorem eq_dict_str {prog : Program} {w : World} {A : Around} {E : Value → Shared → Prop} {s : Shared} {Q : Value → Shared → Prop} {l : Addr} {es : Array DictEntry} {ep : Nat} (b : Str) (u : Tok) (hl : s.heap.get? l = some { cls := .type "dict", data := .dict es ep }) (hu : A.units < cLine) (h : Q (.bool false) s) :
    wpAny (model prog w) A (richCompare .Eq (.ref l) (.str b u)) Q E s :=
  rc_eq_decline_or (k := false) ⟨_, hl, rfl⟩ (typeIs_str s b u) (by decide) F.sub_str_dict F.slot_dict_eq F.slot_str_eq_refl
    (fun _ hq => call_meets F.slot_dict_eq ⟨_, hl, rfl⟩ F.entry_dict_eq (F.args_dict_eq_2 _ _) (dict_not_str l es ep b u) ⟨hl, hq⟩)
    (fun _ hq => call_meets F.slot_str_eq_refl (typeIs_str s b u) F.entry_str_eq (F.args_str_eq_2 _ _) (str_not_dict l es ep b u) ⟨hl, hq⟩)
    (fun _ hq => wpAny_of_eq (rfl : isSame (.ref l) (.str b u) = pure false) hq) (.inr hu) h
section
variable {X : Cx} {P : Program} {w : World} {K : PySem.W.Frag} {mg : Str → Option Value} {base : Heap} {k : Nat} {N : List Str} {nk : List (Str × NameKind)} {ρ : List E} {a b : Expr} {ks : List Key} {l : List D} {z : Str} {pos : Pos}
theorem op_eqDS (hu : X.A.units < cLine) : OpR X (compareOp .Eq) (fun x y H Q => ∃ a kvs z, x = .ref a ∧ y = .str z ∧ H a = some (.dK kvs) ∧ Q (.bl false) H) := by
  intro pins s σ H x y v u Q I rx ry h
  obtain ⟨a, kvs, z, rfl, rfl, ea, q⟩ := h
  obtain rfl : v = Value.ref a := rx
  obtain ⟨t, rfl⟩ := (show ∃ t, u = Value.str z t from ry)
  obtain ⟨_, _, vs, _, o, es, ep, ho, hx, hd, _⟩ := (show ObjOk X.prog X.w H s.heap a (.dK kvs) from I.hok a _ ea)
  obtain ⟨oc, od, dt, sl⟩ := o
  obtain ⟨h1, h2, h3⟩ := hx
  simp only at h1 h2 h3 hd
  subst h1 h2 h3 hd
  exact eq_dict_str z t ho hu ⟨.bl false, H, I, rfl, q⟩
/-- a == b, a a dict, b a text -/
theorem t_eqDS (B : Bx X P w K mg base k N nk) (ha : XE X ρ a (.dct ks l)) (hb : XE X ρ b (.str z)) : XT X ρ (.Compare a [.Eq] [b] pos) false :=
  PT.imp (pt_cmpR (op_eqDS (Nat.lt_of_succ_lt (hu_of B.room))) ha hb (nomark _)) fun σ H Q ⟨Bv, Bs, Hv, g, kk⟩ => ⟨Bv, Bs, Hv, g, fun v1 H1 Hv1 g1 e1 r1 => ⟨Bv, Bs, Hv1, g1, fun v2 H2 Hv2 g2 e2 r2 => by
    have r1' := rp_mono e2.vv r1
    unfold Rp at r1'
    obtain ⟨q, xs, rfl, h1, h2, h3⟩ := r1'
    exact ⟨q, ks.zip xs, z, rfl, rp_v r2, g2.vx.vh _ _ h1, _, rfl, kk H2 Hv2 g2 (e1.trans e2)⟩⟩⟩
end
section
variable {X : Cx} {P : Program} {w : World} {K : PySem.W.Frag} {mg : Str → Option Value} {base : Heap} {k : Nat} {N : List Str} {nk : List (Str × NameKind)} {W : WX}
variable {ρ ρ1 : List E} {c tg : Expr} {o : Out} {body sts other more : List Stmt} {Bo : Bool} {pos : Pos}
/-- an else that stops -/
theorem xb_elX (h : XT X ρ c Bo) (hB : Bo = false) (h2 : XB X W ρ other o) (q : Stop o) : XB X W ρ (.If c sts other pos :: more) o := by
  subst hB
  exact xb_stop (xs_if h nofun fun _ => h2) q
/-- enumerate, folding with the place -/
theorem fo_enumI {α β : Type} {F : α → D} (R : β → List E) (f : β → Nat → α → β) (p : β → Nat → List α → Prop) : ∀ {as : List α} {n : Nat} {y : β}, p y n as → (∀ y x r (n : Nat), p y n (x :: r) → p (f y n x) (n + 1) r ∧ ∃ ρ1, XG X (R y) tg (.tup [.int (n : Nat), F x]) ρ1 ∧ XB X W ρ1 body (.nx (R (f y n x)))) → FoD X W tg body (enL n (as.map F)) (R y) (.nx (R ((as.zipIdx n).foldl (fun y xi => f y xi.2 xi.1) y)))
  | [], _, _, _, _ => .nil
  | x :: as, n, y, h0, h => by
    obtain ⟨h1, ρ1, h2, h3⟩ := h y x as n h0
    exact .next h2 h3 (.inl rfl) (fo_enumI R f p h1 h)
theorem fo_Q {α β γ : Type} {G : α → D} (R : β → List E) (f : β → α → β ⊕ γ) (ex : γ → D) (p : β → List α → Prop) : ∀ {as : List α} {y : β}, p y as →
    (∀ y x r, p y (x :: r) → ∃ ρ1, XG X (R y) tg (G x) ρ1 ∧ match f y x with
      | .inl y' => p y' r ∧ XB X W ρ1 body (.nx (R y'))
      | .inr q => XB X W ρ1 body (.ret (ex q))) →
    ∃ o, FoD X W tg body (as.map G) (R y) o ∧ match foldX f as y with
      | .inl y' => p y' [] ∧ o = .nx (R y')
      | .inr q => o = .ret (ex q)
  | [], y, h0, h => ⟨_, .nil, h0, rfl⟩
  | x :: r, y, h0, h => by
    obtain ⟨ρ1, h1, h2⟩ := h y x r h0
    unfold foldX
    cases e : f y x with
    | inl y' =>
      rw [e] at h2
      obtain ⟨o, h3, h4⟩ := fo_Q R f ex p (as := r) (y := y') h2.1 h
      exact ⟨o, .next h1 h2.2 (.inl rfl) h3, h4⟩
    | inr q =>
      rw [e] at h2
      exact ⟨_, .out h1 h2 trivial (by simp) (by simp), rfl⟩
/-- a for whose turn may return -/
theorem x_forQ {α β γ : Type} {G : α → D} {it : Expr} (B : Bx X P w K mg base k N nk) (S : Bs X W) (R : β → List E) (f : β → α → β ⊕ γ) (ex : γ → D) (p : β → List α → Prop) {as : List α} {y : β} {r : β → D} (hi : XI X (R y) tg it (as.map G)) (h0 : p y as)
    (h : ∀ y x r, p y (x :: r) → ∃ ρ1, XG X (R y) tg (G x) ρ1 ∧ match f y x with
      | .inl y' => p y' r ∧ XB X W ρ1 body (.nx (R y'))
      | .inr q => XB X W ρ1 body (.ret (ex q)))
    (t : ∀ y', p y' [] → foldX f as y = .inl y' → XB X W (R y') more (.ret (r y'))) (hs : ∀ x, foldedSetIterable it X.env x = pure x := by intro _; rfl) :
    XB X W (R y) (.For tg it body [] pos :: more) (.ret (Sum.elim r ex (foldX f as y))) := by
  obtain ⟨o, h1, h2⟩ := fo_Q R f ex p h0 h
  cases e : foldX f as y with
  | inl y' =>
    rw [e] at h2
    obtain ⟨h3, rfl⟩ := h2
    exact x_for B S hi h1 (t y' h3 e) hs
  | inr q =>
    rw [e] at h2
    subst h2
    exact x_forX B S hi h1 trivial hs
end
end PL
/-! pairs that hold new lists: told by a def, taken apart, held and changed by the asker -/
namespace PL
open PySem PySem.Spec L2
open Evl (Ex)

/-! ### items -/
theorem AtN.back {K : PySem.W.Frag} {H H1 Hv H' : Hp} {e : E} {v : V} (x : Ex H H1) (h : AtN K H1 Hv H' e v) : AtN K H Hv H' e v := by
  cases e with
  | val d => exact h
  | own l =>
    obtain ⟨q, ys, h1, h2, h3⟩ := h
    exact ⟨q, ys, h1, Evl.fresh_back x h2, h3⟩
  | no => exact h.elim
  | exc a od ns ds => exact h.elim
  | slf p C ns l => exact h.elim
/-- what an item is worth as data -/
def itD : E → D
  | .val d => d
  | .own l => .lst l
  | _ => .non
section
variable {K : PySem.W.Frag} {Bv Bs Hv H Hv' H' : Hp} {ρ ρ' : List E} {σ : St} {a b e : E} {x y v : V}
/-- no slot names the list -/
def NoS (ρ : List E) (σ : St) (e : E) (v : V) : Prop := isOwn e = true → ∀ q, v = .ref q → NotOwn ρ σ q
/-- view and heap go on -/
theorem AtN.go (h : AtN K Bs Hv H e v) (x : Vx Hv H Hv' H') : AtN K Bs Hv' H' e v := by
  cases e with
  | val d => exact rp_mono x.vv h
  | own l =>
    obtain ⟨q, ys, h1, h2, h3, h4, h5⟩ := h
    refine ⟨q, ys, h1, h2, ?_, x.hh _ _ h4, rpL_mono x.vv h5⟩
    cases z : Hv' q with
    | none => rfl
    | some o =>
      rcases x.fr q o z with u | u
      · rw [h3] at u; cases u
      · rw [h4] at u; cases u
  | no => exact h.elim
  | exc a od ns ds => exact h.elim
  | slf p C ns l => exact h.elim
/-- an item goes into a slot -/
theorem Sg.setN (g : Sg K Bv Bs Hv H ρ σ) (i : Nat) (h : AtN K Bs Hv H e v) (n : NoS ρ σ e v) : Sg K Bv Bs Hv H (ρ.set i e) (σ.set i (some v)) := by
  cases e with
  | val d => exact g.set h
  | own l =>
    obtain ⟨q, ys, rfl, h2, h3, h4, h5⟩ := h
    exact g.setOwn h2 h3 h4 h5 (n rfl q rfl)
  | no => exact h.elim
  | exc a od ns ds => exact h.elim
  | slf p C ns l => exact h.elim
theorem notOwn_set {i : Nat} {q : Addr} (n : NotOwn ρ σ q) (h : e = e) (ne : isOwn e = true → v ≠ .ref q) (hl : σ.length = ρ.length) : NotOwn (ρ.set i e) (σ.set i (some v)) q := fun j l h1 h2 => by
  by_cases z : i = j
  · subst z
    have hi : i < ρ.length := by
      have := (List.getElem?_eq_some_iff.mp h1).1
      rwa [List.length_set] at this
    rw [List.getElem?_set_self hi] at h1
    rw [List.getElem?_set_self (by rw [hl]; exact hi)] at h2
    cases h1
    cases h2
    exact ne rfl rfl
  · rw [List.getElem?_set_ne z] at h1 h2
    exact n j l h1 h2
/-- the item's list becomes data -/
theorem AtN.frz (g : Sg K Bv Bs Hv H ρ σ) (h : AtN K Bs Hv H e v) (n : NoS ρ σ e v) : ∃ HvF, Ex Hv HvF ∧ Sg K Bv Bs HvF H ρ σ ∧ Rp K HvF (itD e) v ∧ ∀ a, HvF a ≠ Hv a → isOwn e = true ∧ v = .ref a := by
  cases e with
  | val d => exact ⟨Hv, Ex.refl _, g, h, fun a z => absurd rfl z⟩
  | own l =>
    obtain ⟨q, ys, rfl, h2, h3, h4, h5⟩ := h
    have hx : Ex Hv (L2.upd Hv q (.lst ys)) := Ex.new h3
    refine ⟨_, hx, g.freezeAt h2 h3 h4 (n rfl q rfl), ?_, fun a z => ⟨rfl, ?_⟩⟩
    · show Rp K _ (.lst l) _
      unfold Rp
      exact ⟨q, ys, rfl, .inl (.inl upd_same), rpL_mono hx h5⟩
    · by_cases u : a = q
      · rw [u]
      · exact absurd (upd_ne u) z
  | no => exact h.elim
  | exc a od ns ds => exact h.elim
  | slf p C ns l => exact h.elim
end

/-! ### a def that tells a pair -/
section
variable {X : Cx} {W : WX} {ρ ρ' ρ1 ρ2 : List E} {e a b c tg : Expr} {es : List Expr} {d d1 d2 : D} {ds l m : List D} {pos p p' pt : Pos} {s : Str} {k n : Nat} {o o1 : Out} {φ : List D → Ro} {more sts : List Stmt} {A1 A2 : E} {kt : Nat}

/-- return (a, xs): xs a list of one's own -/
theorem xs_retVN (i : Nat) (ha : XE X ρ a d) (hN : X.N[i]? = some s) (hv : Vis X.env.scope s) (hr : ρ[i]? = some (.own l)) (hd : (s == ("__debug__" : Str)) = false := by decide +kernel) (hcd : (s == ("__classdict__" : Str)) = false := by decide +kernel)
    (hs : starEach [a, .Name s p] X.env = (false, eval a X.env) :: starEach [.Name s p] X.env := by rfl) (hs2 : starEach [.Name s p] X.env = (false, eval (.Name s p) X.env) :: starEach [] X.env := by rfl) : XS X W ρ (.Return (some (.Tuple [a, .Name s p] kt pt)) pos) (.retP (.val d) (.own l)) :=
  PS.imp (ps_ret (pe_tup (pa_cons ha (pa_cons (pe_var (i := i) hN hv hd hcd) pa_nil hs2) hs))) fun D σ H ⟨Bv, Bs, Hv, g, k⟩ => ⟨Bv, Bs, Hv, g, fun v1 H1 Hv1 g1 e1 r1 => by
    obtain ⟨q, xs, h0, h1, h2, h3, h4⟩ := g1.own hr
    refine ⟨_, h0, Evl.sz_of (by show 2 ≤ 100000; decide), fun t ht => ?_⟩
    have nq : q ≠ t := fun z => by
      rw [z, ht] at h3
      cases h3
    have hn := Evl.fresh_back g1.vx.vh ht
    exact k t v1 (.ref q) _ _ (g1.newV ht).vx upd_same (rp_mono (Ex.new hn) r1) ⟨q, xs, rfl, h1, by rw [upd_ne nq]; exact h2, by rw [upd_ne nq]; exact h3, rpL_mono (Ex.new hn) h4⟩ (fun z => by cases z)⟩
/-- the pair as plain data -/
def frzR : Ro → Ro
  | .frP a b => .val (.tup [itD a, itD b])
  | r => r
theorem AtN.frzV {K : PySem.W.Frag} {Hv H Hv' H' : Hp} {e : E} {v : V} (x : Vx Hv H Hv' H') (h : AtN K H Hv' H' e v) : ∃ HvF, Ex Hv' HvF ∧ Vx Hv H HvF H' ∧ Rp K HvF (itD e) v ∧ ∀ a, HvF a ≠ Hv' a → isOwn e = true ∧ v = .ref a := by
  cases e with
  | val d => exact ⟨Hv', Ex.refl _, x, h, fun a z => absurd rfl z⟩
  | own l =>
    obtain ⟨q, ys, rfl, h2, h3, h4, h5⟩ := h
    refine ⟨_, Ex.new h3, x.freeze h3 h4 h2, ?_, fun a z => ⟨rfl, ?_⟩⟩
    · show Rp K _ (.lst l) _
      unfold Rp
      exact ⟨q, ys, rfl, .inl (.inl upd_same), rpL_mono (Ex.new h3) h5⟩
    · by_cases u : a = q
      · rw [u]
      · exact absurd (upd_ne u) z
  | no => exact h.elim
  | exc a od ns ds => exact h.elim
  | slf p C ns l => exact h.elim
theorem AtN.sep {K : PySem.W.Frag} {H Hv' H' HvF : Hp} {a b : E} {x y : V} (h : AtN K H Hv' H' b y) (sp : Sep2 a b x y) (xv : Ex Hv' HvF) (df : ∀ q, HvF q ≠ Hv' q → isOwn a = true ∧ x = .ref q) : AtN K H HvF H' b y := by
  cases b with
  | val d => exact rp_mono xv h
  | own l =>
    obtain ⟨q, ys, rfl, h2, h3, h4, h5⟩ := h
    refine ⟨q, ys, rfl, h2, ?_, h4, rpL_mono xv h5⟩
    by_cases z : HvF q = Hv' q
    · rw [z]
      exact h3
    · obtain ⟨z1, z2⟩ := df q z
      exact absurd z2 (sp z1 rfl)
  | no => exact h.elim
  | exc a od ns ds => exact h.elim
  | slf p C ns l => exact h.elim
theorem FnC.frz {P : Program} {w : World} {K : PySem.W.Frag} {mg : Str → Option Value} {base : Heap} (F : FnC P w K mg base s k n φ) : FnC P w K mg base s k n fun ds => frzR (φ ds) := by
  obtain ⟨f, fd, ps, h1, h2, h3, h4⟩ := F.ex
  refine ⟨f, fd, ps, h1, h2.imp fun vs H Q E ⟨Hv, ds, z1, z2, z3, z4⟩ => ⟨Hv, ds, z1, z2, z3, ?_⟩, h3, h4⟩
  have z4 : FinR K Hv H Q E (frzR (φ ds)) := z4
  show FinR K Hv H Q E (φ ds)
  generalize φ ds = r at z4 ⊢
  cases r with
  | frP a b =>
    intro q x y H' Hv' vx ht ha hb sp
    obtain ⟨F1, x1, v1, r1, df⟩ := ha.frzV vx
    obtain ⟨F2, x2, v2, r2, _⟩ := (hb.sep sp x1 df).frzV v1
    refine z4 (.ref q) H' F2 v2 ?_
    unfold Rp
    exact ⟨q, [x, y], rfl, .inl (.inl (x2 _ _ (x1 _ _ ht))), rpL_cons (rp_mono x2 r1) (rpL_cons r2 rpL_nil)⟩
  | val d => exact z4
  | fr l => exact z4
  | exc C ns ds => exact z4
  | bad => exact z4

/-! ### a call that tells a pair -/
def tPa (K : PySem.W.Frag) (ρ : List E) (a b : E) : TE := fun σ H Q => ∃ Bv Bs Hv, Sg K Bv Bs Hv H ρ σ ∧ ∀ p x y H' Hv', Sg K Bv Bs Hv' H' ρ σ → Vx Hv H Hv' H' → Hv' p = some (.tup [x, y]) → AtN K H Hv' H' a x → AtN K H Hv' H' b y → Sep2 a b x y → Q (.ref p) H'
abbrev XPa (X : Cx) (ρ : List E) (e : Expr) (a b : E) : Prop := PE X e (tPa X.K ρ a b)
theorem xp_call (F : FnC X.prog X.w X.K X.mg X.base s k n φ) (hr : Room k X.A) (hg : Gl X s) (ha : XA X ρ (e :: es) ds) (hn : ds.length = n) (hφ : φ ds = .frP A1 A2) (hdb : (s == ("__debug__" : Str)) = false := by decide)
    (he : starEach (e :: es) X.env = (false, eval e X.env) :: starEach es X.env := by rfl) (hpl : (backTo pos (starEach es X.env)).any (·.1) = false := by rfl) : XPa X ρ (.Call (.Name s p) (e :: es) [] pos) A1 A2 := by
  obtain ⟨f, fd, ps, hm, F, hk, hb⟩ := F.ex
  refine PE.imp (pe_call F hr hg hm hk hb .nil (passN (X := X)) ha hdb he hpl) fun σ H Q ⟨Bv, Bs, Hv, g, k⟩ => ⟨Bv, Bs, Hv, g, fun vs H1 Hv1 g1 e1 r1 => ?_⟩
  refine ⟨Hv1, ds, g1.vx.vh, by rw [List.append_nil]; exact r1, hn, ?_⟩
  rw [hφ]
  exact fun q x y H' Hv' v h1 h2 h3 h4 => k q x y H' Hv' (g1.go v) (e1.trans v) h1 (h2.back e1.hh) (h3.back e1.hh) h4
theorem x_callP {P : Program} {w : World} {K : PySem.W.Frag} {mg : Str → Option Value} {base : Heap} {k k' : Nat} {N : List Str} {nk : List (Str × NameKind)} (B : Bx X P w K mg base k N nk) (h : FnC P w K mg base s k' n φ) (j : Nat) (ha : XA X ρ (e :: es) ds) (hφ : φ ds = .frP A1 A2) (hk : k' ≤ k := by decide) (hn : ds.length = n := by rfl) (hj : nk[j]? = some (s, .globalImplicit) := by rfl) (hdb : (s == ("__debug__" : Str)) = false := by decide +kernel)
    (he : starEach (e :: es) X.env = (false, eval e X.env) :: starEach es X.env := by rfl) (hpl : (backTo pos (starEach es X.env)).any (·.1) = false := by rfl) : XPa X ρ (.Call (.Name s p) (e :: es) [] pos) A1 A2 :=
  xp_call (B.fnc h) (B.room.mono hk) (B.gl hj) ha hn hφ hdb he hpl
theorem NoS.new {K : PySem.W.Frag} {Bv Bs Hv H Hv' H' : Hp} {σ : St} {e : E} {v : V} (g : Sg K Bv Bs Hv H ρ σ) (h : AtN K H Hv' H' e v) : NoS ρ σ e v := fun z q hq => by
  cases e with
  | own l =>
    obtain ⟨q', ys, h1, h2, _⟩ := h
    rw [hq] at h1
    cases h1
    exact g.notOwn_new h2
  | _ => cases z
/-- m, n = call -/
theorem xs_asgP (i j : Nat) {s1 s2 : Str} {p1 p2 : Pos} (hc : X.calm = true) (hN : X.N.Nodup) (hi : X.N[i]? = some s1) (hj : X.N[j]? = some s2) (hx1 : Loc X.env.scope s1) (hx2 : Loc X.env.scope s2) (hf : ∀ x, X.fn x = true) (hij : i ≠ j) (h : XPa X ρ e A1 A2)
    (hs : swapsWithSole [.Tuple [.Name s1 p1, .Name s2 p2] kt pt] e pos.line X.env = pure false := by rfl) (hw : swappedStores [.Tuple [.Name s1 p1, .Name s2 p2] kt pt] e X.env = pure none := by rfl)
    (h1 : (assignEach [.Tuple [.Name s1 p1, .Name s2 p2] kt pt] X.env).map (·.2) = [assign (.Tuple [.Name s1 p1, .Name s2 p2] kt pt) X.env] := by rfl)
    (hn : (assignEach [.Name s1 p1, .Name s2 p2] X.env).length = 2 := by rfl) (hst : (assignEach [.Name s1 p1, .Name s2 p2] X.env).findIdx? (·.1) = none := by rfl)
    (ht1 : (assignEach [.Name s1 p1, .Name s2 p2] X.env).map (·.2) = assign (.Name s1 p1) X.env :: (assignEach [.Name s2 p2] X.env).map (·.2) := by rfl)
    (ht2 : (assignEach [.Name s2 p2] X.env).map (·.2) = assign (.Name s2 p2) X.env :: (assignEach [] X.env).map (·.2) := by rfl) :
    XS X W ρ (.Assign [.Tuple [.Name s1 p1, .Name s2 p2] kt pt] e pos) (.nx ((ρ.set i A1).set j A2)) :=
  PS.imp (ps_asg h (pg_tup hc (pgs_cons (pg_name (i := i) hN hi hx1 (.inl (hf _))) (pgs_cons (pg_name (i := j) hN hj hx2 (.inl (hf _))) pgs_nil ht2) ht1) hn hst) hs hw h1) fun D σ H ⟨Bv, Bs, Hv, g, k⟩ => ⟨Bv, Bs, Hv, g, fun q x y H' Hv' g' vx z1 z2 z3 z4 => by
    have n1 : NoS ρ σ A1 x := NoS.new g z2
    have n2 : NoS ρ σ A2 y := NoS.new g z3
    have y2 := z2.back g.vx.hh
    have y3 := z3.back g.vx.hh
    refine ⟨q, [x, y], rfl, .inl (.inl (g'.vx.vh _ _ z1)), rfl, x, [y], rfl, y, [], rfl, rfl, ?_⟩
    refine k _ _ Hv' ((g'.setN i y2 n1).setN j y3 fun u t hq => notOwn_set (n2 u t hq) rfl (fun w hx => z4 w u (by rw [hx, hq])) g.len)⟩
theorem x_asgP {P : Program} {w : World} {K : PySem.W.Frag} {mg : Str → Option Value} {base : Heap} {N : List Str} {nk : List (Str × NameKind)} {kd1 kd2 : NameKind} {s1 s2 : Str} {p1 p2 : Pos} (B : Bx X P w K mg base k N nk) (S : Bs X W) (i j ix iy : Nat) (h : XPa X ρ e A1 A2) (hρ : (ρ.set i A1).set j A2 = ρ1) (t : XB X W ρ1 more o)
    (hi : N[i]? = some s1 := by rfl) (hj : N[j]? = some s2 := by rfl) (hij : i ≠ j := by decide) (jx : nk[ix]? = some (s1, kd1) := by rfl) (jy : nk[iy]? = some (s2, kd2) := by rfl) (hl1 : isLoc kd1 = true := by rfl) (hl2 : isLoc kd2 = true := by rfl)
    (hs : swapsWithSole [.Tuple [.Name s1 p1, .Name s2 p2] kt pt] e pos.line X.env = pure false := by rfl) (hw : swappedStores [.Tuple [.Name s1 p1, .Name s2 p2] kt pt] e X.env = pure none := by rfl)
    (h1 : (assignEach [.Tuple [.Name s1 p1, .Name s2 p2] kt pt] X.env).map (·.2) = [assign (.Tuple [.Name s1 p1, .Name s2 p2] kt pt) X.env] := by rfl) : XB X W ρ (.Assign [.Tuple [.Name s1 p1, .Name s2 p2] kt pt] e pos :: more) o :=
  xb_cons (xs_asgP i j B.calm B.nd (B.at_ hi) (B.at_ hj) (B.loc jx hl1) (B.loc jy hl2) S.fn hij h hs hw h1) (hρ ▸ t)
theorem x_retVN {P : Program} {w : World} {K : PySem.W.Frag} {mg : Str → Option Value} {base : Heap} {N : List Str} {nk : List (Str × NameKind)} {kd : NameKind} (B : Bx X P w K mg base k N nk) (i j : Nat) (ha : XE X ρ a d) (hr : ρ[i]? = some (.own l) := by rfl) (hi : N[i]? = some s := by rfl) (hj : nk[j]? = some (s, kd) := by rfl) (hv : isVis kd = true := by rfl) (hd : (s == ("__debug__" : Str)) = false := by decide +kernel) (hcd : (s == ("__classdict__" : Str)) = false := by decide +kernel)
    (hs : starEach [a, .Name s p] X.env = (false, eval a X.env) :: starEach [.Name s p] X.env := by rfl) (hs2 : starEach [.Name s p] X.env = (false, eval (.Name s p) X.env) :: starEach [] X.env := by rfl) : XB X W ρ (.Return (some (.Tuple [a, .Name s p] kt pt)) pos :: more) (.retP (.val d) (.own l)) :=
  xb_stop (xs_retVN i ha (B.at_ hi) (B.vis hj hv) hr hd hcd hs hs2) trivial
end
end PL
namespace W38
open PySem PySem.Spec L2 PL
open Dig Nth Bits Mk Nr Mks Fld TL Cal Rws
abbrev d_FIGURES_wholes : D := .tx [48, 49, 50, 51, 52, 53, 54, 55, 56, 57]
abbrev d_MOST_STRIDE : D := .int 99
abbrev d_MOST_SIGNS_fields : D := .int 300
abbrev d_MOST_ITEMS_fields : D := .int 40
abbrev d_FIGURES_marks : D := .tx [48, 49, 50, 51, 52, 53, 54, 55, 56, 57]
abbrev d_MOST_SIGNS_marks : D := .int 300
abbrev d_MOST_ITEMS_marks : D := .int 40
abbrev d_MOST_MARKS : D := .int 20
def topS (i : Nat) : Stmt := tpS PySem.Challenge.pw_fivefields_k38_marks_refused i
abbrev s_only_figures : Stmt := topS 13
abbrev nk_only_figures : List (Str × NameKind) := [("signs", .«local»), ("sign", .«local»), ("FIGURES_wholes", .globalImplicit)]
abbrev N_only_figures : List Str := ["signs", "sign"]
theorem sc_only_figures : FnScope N_only_figures ["signs"] (defScope s_only_figures) := ⟨rfl, rfl, rfl, by decide +kernel, rfl, by decide +kernel, by decide +kernel⟩
abbrev s_mask_of : Stmt := topS 18
abbrev nk_mask_of : List (Str × NameKind) := [("numbers", .«local»), ("mask", .«local»), ("number", .«local»)]
abbrev N_mask_of : List Str := ["numbers", "mask", "number"]
theorem sc_mask_of : FnScope N_mask_of ["numbers"] (defScope s_mask_of) := ⟨rfl, rfl, rfl, by decide +kernel, rfl, by decide +kernel, by decide +kernel⟩
abbrev s_number_in_fields : Stmt := topS 19
abbrev nk_number_in_fields : List (Str × NameKind) := [("text", .«local»), ("low", .cell), ("high", .cell), ("only_figures", .globalImplicit), ("len", .globalImplicit), ("int", .globalImplicit)]
abbrev N_number_in_fields : List Str := ["text", "low", "high", "number"]
theorem sc_number_in_fields : FnScope N_number_in_fields ["text", "low", "high"] (defScope s_number_in_fields) := ⟨rfl, rfl, rfl, by decide +kernel, rfl, by decide +kernel, by decide +kernel⟩
abbrev s_span_in : Stmt := topS 21
abbrev nk_span_in : List (Str × NameKind) := [("text", .«local»), ("low", .cell), ("high", .cell), ("ends", .«local»), ("len", .globalImplicit)]
abbrev N_span_in : List Str := ["text", "low", "high", "ends", "part"]
theorem sc_span_in : FnScope N_span_in ["text", "low", "high"] (defScope s_span_in) := ⟨rfl, rfl, rfl, by decide +kernel, rfl, by decide +kernel, by decide +kernel⟩
abbrev s_item_mask : Stmt := topS 22
abbrev nk_item_mask : List (Str × NameKind) := [("item", .«local»), ("low", .«local»), ("high", .«local»), ("halves", .«local»), ("span", .«local»), ("stride", .«local»), ("span_in", .globalImplicit), ("len", .globalImplicit), ("mask_of", .globalImplicit), ("list", .globalImplicit), ("range", .globalImplicit), ("number_in_fields", .globalImplicit), ("MOST_STRIDE", .globalImplicit), ("only_figures", .globalImplicit)]
abbrev N_item_mask : List Str := ["item", "low", "high", "halves", "span", "stride"]
theorem sc_item_mask : FnScope N_item_mask ["item", "low", "high"] (defScope s_item_mask) := ⟨rfl, rfl, rfl, by decide +kernel, rfl, by decide +kernel, by decide +kernel⟩
abbrev s_read_field : Stmt := topS 23
abbrev nk_read_field : List (Str × NameKind) := [("text", .«local»), ("low", .«local»), ("high", .«local»), ("mask", .«local»), ("items", .«local»), ("at", .«local»), ("item", .«local»), ("here", .«local»), ("isinstance", .globalImplicit), ("str", .globalImplicit), ("len", .globalImplicit), ("MOST_SIGNS_fields", .globalImplicit), ("NoField", .globalImplicit), ("enumerate", .globalImplicit), ("MOST_ITEMS_fields", .globalImplicit), ("item_mask", .globalImplicit)]
abbrev N_read_field : List Str := ["text", "low", "high", "mask", "items", "at", "item", "here"]
theorem sc_read_field : FnScope N_read_field ["text", "low", "high"] (defScope s_read_field) := ⟨rfl, rfl, rfl, by decide +kernel, rfl, by decide +kernel, by decide +kernel⟩
abbrev s_Numbers_init : Stmt := (inClass (topS 33) 0)
abbrev nk_Numbers_init : List (Str × NameKind) := [("self", .«local»), ("mask", .«local»)]
abbrev N_Numbers_init : List Str := ["self", "mask"]
theorem sc_Numbers_init : FnScope N_Numbers_init ["self", "mask"] (defScope s_Numbers_init) := ⟨rfl, rfl, rfl, by decide +kernel, rfl, by decide +kernel, by decide +kernel⟩
abbrev s_Last_init : Stmt := (inClass (topS 34) 0)
abbrev nk_Last_init : List (Str × NameKind) := [("self", .«local»), ("back", .«local»)]
abbrev N_Last_init : List Str := ["self", "back"]
theorem sc_Last_init : FnScope N_Last_init ["self", "back"] (defScope s_Last_init) := ⟨rfl, rfl, rfl, by decide +kernel, rfl, by decide +kernel, by decide +kernel⟩
abbrev s_Near_init : Stmt := (inClass (topS 35) 0)
abbrev nk_Near_init : List (Str × NameKind) := [("self", .«local»), ("day", .«local»)]
abbrev N_Near_init : List Str := ["self", "day"]
theorem sc_Near_init : FnScope N_Near_init ["self", "day"] (defScope s_Near_init) := ⟨rfl, rfl, rfl, by decide +kernel, rfl, by decide +kernel, by decide +kernel⟩
abbrev s_Nth_init : Stmt := (inClass (topS 38) 0)
abbrev nk_Nth_init : List (Str × NameKind) := [("self", .«local»), ("weekday", .«local»), ("many", .«local»)]
abbrev N_Nth_init : List Str := ["self", "weekday", "many"]
theorem sc_Nth_init : FnScope N_Nth_init ["self", "weekday", "many"] (defScope s_Nth_init) := ⟨rfl, rfl, rfl, by decide +kernel, rfl, by decide +kernel, by decide +kernel⟩
abbrev s_LastOne_init : Stmt := (inClass (topS 39) 0)
abbrev nk_LastOne_init : List (Str × NameKind) := [("self", .«local»), ("weekday", .«local»)]
abbrev N_LastOne_init : List Str := ["self", "weekday"]
theorem sc_LastOne_init : FnScope N_LastOne_init ["self", "weekday"] (defScope s_LastOne_init) := ⟨rfl, rfl, rfl, by decide +kernel, rfl, by decide +kernel, by decide +kernel⟩
abbrev s_Weekdays_init : Stmt := (inClass (topS 37) 0)
abbrev nk_Weekdays_init : List (Str × NameKind) := [("self", .«local»), ("mask", .«local»)]
abbrev N_Weekdays_init : List Str := ["self", "mask"]
theorem sc_Weekdays_init : FnScope N_Weekdays_init ["self", "mask"] (defScope s_Weekdays_init) := ⟨rfl, rfl, rfl, by decide +kernel, rfl, by decide +kernel, by decide +kernel⟩
abbrev s_number_in_marks : Stmt := topS 40
abbrev nk_number_in_marks : List (Str × NameKind) := [("text", .«local»), ("low", .«local»), ("high", .«local»), ("sign", .«local»), ("number", .«local»), ("len", .globalImplicit), ("FIGURES_marks", .globalImplicit), ("int", .globalImplicit)]
abbrev N_number_in_marks : List Str := ["text", "low", "high", "sign", "number"]
theorem sc_number_in_marks : FnScope N_number_in_marks ["text", "low", "high"] (defScope s_number_in_marks) := ⟨rfl, rfl, rfl, by decide +kernel, rfl, by decide +kernel, by decide +kernel⟩
abbrev s_day_mark : Stmt := topS 42
abbrev nk_day_mark : List (Str × NameKind) := [("item", .«local»), ("number", .«local»), ("Last", .globalImplicit), ("LastWork", .globalImplicit), ("number_in_marks", .globalImplicit), ("Near", .globalImplicit)]
abbrev N_day_mark : List Str := ["item", "number"]
theorem sc_day_mark : FnScope N_day_mark ["item"] (defScope s_day_mark) := ⟨rfl, rfl, rfl, by decide +kernel, rfl, by decide +kernel, by decide +kernel⟩
abbrev s_weekday_mark : Stmt := topS 43
abbrev nk_weekday_mark : List (Str × NameKind) := [("item", .«local»), ("number", .«local»), ("parts", .«local»), ("many", .«local»), ("number_in_marks", .globalImplicit), ("LastOne", .globalImplicit), ("len", .globalImplicit), ("Nth", .globalImplicit)]
abbrev N_weekday_mark : List Str := ["item", "number", "parts", "many"]
theorem sc_weekday_mark : FnScope N_weekday_mark ["item"] (defScope s_weekday_mark) := ⟨rfl, rfl, rfl, by decide +kernel, rfl, by decide +kernel, by decide +kernel⟩
abbrev s_items_of : Stmt := topS 44
abbrev nk_items_of : List (Str × NameKind) := [("text", .«local»), ("isinstance", .globalImplicit), ("str", .globalImplicit), ("len", .globalImplicit), ("MOST_SIGNS_marks", .globalImplicit), ("NoField", .globalImplicit)]
abbrev N_items_of : List Str := ["text"]
theorem sc_items_of : FnScope N_items_of ["text"] (defScope s_items_of) := ⟨rfl, rfl, rfl, by decide +kernel, rfl, by decide +kernel, by decide +kernel⟩
abbrev s_plain_item : Stmt := topS 45
abbrev nk_plain_item : List (Str × NameKind) := [("item", .«local»), ("at", .«local»), ("low", .«local»), ("high", .«local»), ("mask", .«local»), ("read_field", .globalImplicit), ("NoField", .globalImplicit)]
abbrev N_plain_item : List Str := ["item", "at", "low", "high", "mask"]
theorem sc_plain_item : FnScope N_plain_item ["item", "at", "low", "high"] (defScope s_plain_item) := ⟨rfl, rfl, rfl, by decide +kernel, rfl, by decide +kernel, by decide +kernel⟩
abbrev s_read_items : Stmt := topS 46
abbrev nk_read_items : List (Str × NameKind) := [("text", .«local»), ("marked", .«local»), ("low", .«local»), ("high", .«local»), ("items", .«local»), ("mask", .«local»), ("marks", .«local»), ("at", .«local»), ("mark", .«local»), ("items_of", .globalImplicit), ("range", .globalImplicit), ("min", .globalImplicit), ("MOST_ITEMS_marks", .globalImplicit), ("len", .globalImplicit), ("plain_item", .globalImplicit), ("MOST_MARKS", .globalImplicit), ("NoField", .globalImplicit)]
abbrev N_read_items : List Str := ["text", "marked", "low", "high", "items", "mask", "marks", "at", "mark"]
theorem sc_read_items : FnScope N_read_items ["text", "marked", "low", "high"] (defScope s_read_items) := ⟨rfl, rfl, rfl, by decide +kernel, rfl, by decide +kernel, by decide +kernel⟩
abbrev s_read_days : Stmt := topS 47
abbrev nk_read_days : List (Str × NameKind) := [("text", .«local»), ("mask", .«local»), ("marks", .«local»), ("read_items", .globalImplicit), ("day_mark", .globalImplicit), ("Numbers", .globalImplicit)]
abbrev N_read_days : List Str := ["text", "mask", "marks"]
theorem sc_read_days : FnScope N_read_days ["text"] (defScope s_read_days) := ⟨rfl, rfl, rfl, by decide +kernel, rfl, by decide +kernel, by decide +kernel⟩
abbrev s_read_weekdays : Stmt := topS 48
abbrev nk_read_weekdays : List (Str × NameKind) := [("text", .«local»), ("mask", .«local»), ("marks", .«local»), ("read_items", .globalImplicit), ("weekday_mark", .globalImplicit), ("Weekdays", .globalImplicit)]
abbrev N_read_weekdays : List Str := ["text", "mask", "marks"]
theorem sc_read_weekdays : FnScope N_read_weekdays ["text"] (defScope s_read_weekdays) := ⟨rfl, rfl, rfl, by decide +kernel, rfl, by decide +kernel, by decide +kernel⟩
abbrev s_law_cell_at : Stmt := topS 50
abbrev nk_law_cell_at : List (Str × NameKind) := [("_law_script", .«local»), ("_law_k", .«local»), ("len", .globalImplicit)]
abbrev N_law_cell_at : List Str := ["_law_script", "_law_k"]
theorem sc_law_cell_at : FnScope N_law_cell_at ["_law_script", "_law_k"] (defScope s_law_cell_at) := ⟨rfl, rfl, rfl, by decide +kernel, rfl, by decide +kernel, by decide +kernel⟩
abbrev s_law_stir : Stmt := topS 51
abbrev nk_law_stir : List (Str × NameKind) := [("_law_number", .«local»), ("_law_first", .«local»), ("_law_second", .«local»)]
abbrev N_law_stir : List Str := ["_law_number", "_law_first", "_law_second"]
theorem sc_law_stir : FnScope N_law_stir ["_law_number"] (defScope s_law_stir) := ⟨rfl, rfl, rfl, by decide +kernel, rfl, by decide +kernel, by decide +kernel⟩
abbrev s_law_digits : Stmt := topS 52
abbrev nk_law_digits : List (Str × NameKind) := [("_law_cell", .«local»), ("_law_sizes", .«local»), ("_law_mixed", .«local»), ("_law_found", .«local»), ("_law_size", .«local»), ("abs", .globalImplicit), ("_law_stir", .globalImplicit)]
abbrev N_law_digits : List Str := ["_law_cell", "_law_sizes", "_law_mixed", "_law_found", "_law_size"]
theorem sc_law_digits : FnScope N_law_digits ["_law_cell", "_law_sizes", "_law_mixed"] (defScope s_law_digits) := ⟨rfl, rfl, rfl, by decide +kernel, rfl, by decide +kernel, by decide +kernel⟩
abbrev s_law_whole : Stmt := topS 53
abbrev nk_law_whole : List (Str × NameKind) := [("_law_found", .«local»), ("isinstance", .globalImplicit), ("int", .globalImplicit), ("bool", .globalImplicit)]
abbrev N_law_whole : List Str := ["_law_found"]
theorem sc_law_whole : FnScope N_law_whole ["_law_found"] (defScope s_law_whole) := ⟨rfl, rfl, rfl, by decide +kernel, rfl, by decide +kernel, by decide +kernel⟩
abbrev s_law_right : Stmt := topS 54
abbrev nk_law_right : List (Str × NameKind) := [("_law_turn", .«local»), ("_law_week", .«local»), ("_law_mark", .«local»)]
abbrev N_law_right : List Str := ["_law_turn", "_law_week", "_law_mark"]
theorem sc_law_right : FnScope N_law_right ["_law_turn", "_law_week", "_law_mark"] (defScope s_law_right) := ⟨rfl, rfl, rfl, by decide +kernel, rfl, by decide +kernel, by decide +kernel⟩
abbrev s_law_wrong : Stmt := topS 55
abbrev nk_law_wrong : List (Str × NameKind) := [("_law_turn", .«local»), ("_law_week", .«local»), ("_law_some", .«local»), ("_law_more", .«local»)]
abbrev N_law_wrong : List Str := ["_law_turn", "_law_week", "_law_some", "_law_more"]
theorem sc_law_wrong : FnScope N_law_wrong ["_law_turn", "_law_week"] (defScope s_law_wrong) := ⟨rfl, rfl, rfl, by decide +kernel, rfl, by decide +kernel, by decide +kernel⟩
abbrev s_law_items : Stmt := topS 56
abbrev nk_law_items : List (Str × NameKind) := [("_law_cell", .«local»), ("_law_turns", .«local»), ("_law_week", .«local»), ("_law_mixed", .«local»), ("_law_parts", .«local»), ("_law_many", .«local»), ("_law_share", .«local»), ("_law_items_here", .«local»), ("_law_k", .«local»), ("_law_turn", .«local»), ("_law_digits", .globalImplicit), ("enumerate", .globalImplicit), ("_law_right", .globalImplicit), ("range", .globalImplicit), ("_law_wrong", .globalImplicit)]
abbrev N_law_items : List Str := ["_law_cell", "_law_turns", "_law_week", "_law_mixed", "_law_parts", "_law_many", "_law_share", "_law_items_here", "_law_k", "_law_turn"]
theorem sc_law_items : FnScope N_law_items ["_law_cell", "_law_turns", "_law_week", "_law_mixed"] (defScope s_law_items) := ⟨rfl, rfl, rfl, by decide +kernel, rfl, by decide +kernel, by decide +kernel⟩
abbrev s_law_is_mark : Stmt := topS 57
abbrev nk_law_is_mark : List (Str × NameKind) := [("_law_text", .«local»)]
abbrev N_law_is_mark : List Str := ["_law_text"]
theorem sc_law_is_mark : FnScope N_law_is_mark ["_law_text"] (defScope s_law_is_mark) := ⟨rfl, rfl, rfl, by decide +kernel, rfl, by decide +kernel, by decide +kernel⟩
abbrev s_law_due : Stmt := topS 58
abbrev nk_law_due : List (Str × NameKind) := [("_law_items_here", .«local»), ("_law_text", .«local»), ("_law_good", .«local»), ("_law_marks", .«local»), ("_law_k", .«local»), ("len", .globalImplicit), ("range", .globalImplicit), ("min", .globalImplicit), ("_law_is_mark", .globalImplicit), ("int", .globalImplicit)]
abbrev N_law_due : List Str := ["_law_items_here", "_law_text", "_law_good", "_law_marks", "_law_k"]
theorem sc_law_due : FnScope N_law_due ["_law_items_here"] (defScope s_law_due) := ⟨rfl, rfl, rfl, by decide +kernel, rfl, by decide +kernel, by decide +kernel⟩
abbrev s_law_told : Stmt := topS 59
abbrev nk_law_told : List (Str × NameKind) := [("_law_text", .«local»), ("_law_week", .«local»), ("_law_found", .«local»), ("e", .«local»), ("read_days", .globalImplicit), ("read_weekdays", .globalImplicit), ("int", .globalImplicit), ("FieldError", .globalImplicit), ("isinstance", .globalImplicit), ("NoField", .globalImplicit), ("ValueError", .globalImplicit), ("_law_whole", .globalImplicit), ("NoBook", .globalImplicit), ("NoClock", .globalImplicit), ("NoDay", .globalImplicit), ("NoMoment", .globalImplicit), ("NoName", .globalImplicit), ("NoRow", .globalImplicit), ("NoWord", .globalImplicit), ("list", .globalImplicit)]
abbrev N_law_told : List Str := ["_law_text", "_law_week", "_law_found", "e"]
theorem sc_law_told : FnScope N_law_told ["_law_text", "_law_week"] (defScope s_law_told) := ⟨rfl, rfl, rfl, by decide +kernel, rfl, by decide +kernel, by decide +kernel⟩
abbrev s_law_longest : Stmt := topS 60
abbrev nk_law_longest : List (Str × NameKind) := [("_law_week", .«local»), ("_law_some", .«local»), ("_law_told", .globalImplicit)]
abbrev N_law_longest : List Str := ["_law_week", "_law_some"]
theorem sc_law_longest : FnScope N_law_longest ["_law_week"] (defScope s_law_longest) := ⟨rfl, rfl, rfl, by decide +kernel, rfl, by decide +kernel, by decide +kernel⟩
abbrev s_law : Stmt := topS 61
abbrev nk_law : List (Str × NameKind) := [("_law_script", .«local»), ("_law_mixed", .«local»), ("_law_week", .«local»), ("_law_at", .«local»), ("_law_items_here", .«local»), ("_law_text", .«local»), ("_law_thing", .«local»), ("_law_cell_at", .globalImplicit), ("int", .globalImplicit), ("_law_items", .globalImplicit), ("_law_told", .globalImplicit), ("_law_due", .globalImplicit), ("_law_longest", .globalImplicit)]
abbrev N_law : List Str := ["_law_script", "_law_mixed", "_law_week", "_law_at", "_law_items_here", "_law_text", "_law_thing", "_law_one", "_law_good"]
theorem sc_law : FnScope N_law ["_law_script"] (defScope s_law) := ⟨rfl, rfl, rfl, by decide +kernel, rfl, by decide +kernel, by decide +kernel⟩
abbrev s_NoField_init : Stmt := (inClass (topS 5) 0)
theorem sc_NoField_init : FnScope ["self", "at"] ["self", "at"] (defScope s_NoField_init) := ⟨rfl, rfl, rfl, by decide +kernel, rfl, by decide +kernel, by decide +kernel⟩
def phi_law_whole : List D → Ro := fV fun d => match d with
  | .v (.int _) => .val (.bl true)
  | .v (.bl _) => .val (.bl false)
  | .v (.str _) => .val (.bl false)
  | .v .non => .val (.bl false)
  | .lst _ => .val (.bl false)
  | .tup _ => .val (.bl false)
  | _ => .bad
def phi_Numbers_init : List D → RoI
  | [d] => .flds ["mask"] [d]
  | _ => .bad
def phi_Last_init : List D → RoI
  | [d] => .flds ["back"] [d]
  | _ => .bad
def phi_Nth_init : List D → RoI
  | [d, e] => .flds ["weekday", "many"] [d, e]
  | _ => .bad
def phi_LastOne_init : List D → RoI
  | [d] => .flds ["weekday"] [d]
  | _ => .bad
def phi_Weekdays_init : List D → RoI
  | [d] => .flds ["mask"] [d]
  | _ => .bad
def phi_Near_init : List D → RoI
  | [d] => .flds ["day"] [d]
  | _ => .bad
theorem if_okC {c : Prop} {i : Decidable c} {r : Ro} (h : @ite _ c i r .bad ≠ .bad) : c := by
  by_cases q : c
  · exact q
  · rw [if_neg q] at h
    exact absurd rfl h
def obM (aW aN aL aR aK aT aO aM : Addr) : Mrk → D
  | .wks m => .obj aW ["mask"] [.int (m : Nat)]
  | .num m => .obj aN ["mask"] [.int (m : Nat)]
  | .last b => .obj aL ["back"] [.int (b : Nat)]
  | .near d => .obj aR ["day"] [.int (d : Nat)]
  | .work => .obj aK [] []
  | .nth w m => .obj aT ["weekday", "many"] [.int (w : Nat), .int (m : Nat)]
  | .lone w => .obj aO ["weekday"] [.int (w : Nat)]
  | .bare => .obj aM [] []
section
variable {aW aN aL aR aK aT aO aM : Addr}
theorem ob_ref : ∀ {ms : List Mrk}, ∀ d ∈ ms.map (obM aW aN aL aR aK aT aO aM), isRefD d = true := fun d hd => by
  obtain ⟨k, _, rfl⟩ := List.mem_map.mp hd
  cases k <;> rfl
end
noncomputable def phi_mask_of : List D → Ro := fN fun l => .val (.int (maskOf l : Nat))
theorem fmask_val {l : List Nat} (h : ∀ n ∈ l, n < 64) (hl : l.length ≤ 1000) : phi_mask_of [.lst (nl l)] = .val (.int (maskOf l : Nat)) := fN_val h hl
theorem ornat (m n : Nat) : (.v (.int (Builtin.bitOr (m : Int) (1 * 2 ^ ((n : Int).toNat)))) : D) = .int ((m ||| 2 ^ n : Nat) : Int) := by
  rw [shl_nat, or_nat]
theorem fold_nl (l : List Nat) : ∀ y : Nat, (nl l).foldl (fun y d => y ||| 2 ^ (toInt1 d).toNat) y = l.foldl (fun m n => m ||| 2 ^ n) y := by
  induction l with
  | nil => intro y; rfl
  | cons n l ih => intro y; exact ih _
def phi_only_figures : List D → Ro := fT fun l => .val (.bl (onlyF l))
def phi_number_in_fields : List D → Ro := fTB fun l lo hi => .fr (nl (numN l lo hi))
theorem fnum_val {l : List Nat} {lo hi : Nat} (h : (lo ≤ hi ∧ hi ≤ 99) ∧ l.length ≤ 1000) : phi_number_in_fields [.tx l, .int (lo : Nat), .int (hi : Nat)] = .fr (nl (numN l lo hi)) := fTB_val h
def phi_span_in : List D → Ro := fTB fun l lo hi => .fr (nl (spanN l lo hi))
theorem span_val {l : List Nat} {lo hi : Nat} (h : (lo ≤ hi ∧ hi ≤ 99) ∧ l.length ≤ 1000) : phi_span_in [.tx l, .int (lo : Nat), .int (hi : Nat)] = .fr (nl (spanN l lo hi)) := fTB_val h
def phi_item_mask : List D → Ro := fTB fun l lo hi => if hi < 64 then .val (.int (itemN l lo hi : Nat)) else .bad
theorem fitem_val {l : List Nat} {lo hi : Nat} (h : lo ≤ hi ∧ hi < 64) (hl : l.length ≤ 1000) : phi_item_mask [.tx l, .int (lo : Nat), .int (hi : Nat)] = .val (.int (itemN l lo hi : Nat)) := by
  rw [phi_item_mask, fTB_val ⟨by omega, hl⟩, if_pos h.2]
def listN (e : List Nat) : D := .lst (nl e)
theorem inD_nl (es : List (List Nat)) : InD (.lst []) (es.map listN) (es.any fun e => decide (e = [])) := by
  have h := inD_lists [] (es.map fun e => e.map fun n : Nat => (n : Int))
  rw [List.map_map, List.any_map] at h
  have e : (es.any ((fun x => decide (x = [])) ∘ fun e => e.map fun n : Nat => (n : Int))) = es.any fun e => decide (e = []) := by
    congr 1
    funext x
    show decide (x.map (fun n : Nat => (n : Int)) = []) = _
    rw [decide_eq_decide, List.map_eq_nil_iff]
  rw [e] at h
  exact h
theorem nl_head {e : List Nat} (h : e ≠ []) : atI (nl e) 0 = some (.int (e.headD 0 : Nat)) := by
  cases e with
  | nil => exact absurd rfl h
  | cons x r => exact atI_nat (j := 0) rfl
theorem any_ne {es : List (List Nat)} {e : List Nat} (h : (es.any fun e => decide (e = [])) = false) (he : e ∈ es) : e ≠ [] := fun q => by
  have : (es.any fun e => decide (e = [])) = true := List.any_eq_true.mpr ⟨e, he, by simpa using q⟩
  rw [this] at h
  cases h
theorem head_mem {α : Type} {es : List α} {d : α} (h : es ≠ []) : es.headD d ∈ es := by
  cases es with
  | nil => exact absurd rfl h
  | cons x r => simp
theorem last_mem {α : Type} {es : List α} {d : α} (h : es ≠ []) : es.getLastD d ∈ es := by
  cases es with
  | nil => exact absurd rfl h
  | cons x r =>
    rw [List.getLastD_cons]
    exact List.getLastD_mem_cons
theorem ix0 {l : List Nat} {a : Nat} : atI (nl (a :: l)) 0 = some (.int (a : Nat)) := atI_nat (j := 0) rfl
theorem ix1 {a b : Nat} : atI (nl [a, b]) 1 = some (.int (b : Nat)) := rfl
theorem ixh1 {hs : List (List Nat)} (h : 2 ≤ hs.length) : atI (txs hs) 1 = some (.tx (hs.getD 1 [])) := by
  match hs, h with
  | a :: b :: r, _ => exact atI_nat (j := 1) rfl
  | [], h => simp at h
  | [_], h => simp at h
theorem inv_readF {C : Addr} {ds : List D} (h : phi_readF C ds ≠ .bad) : (∃ (l : List Nat) (lo hi : Nat), ds = [.tx l, .int (lo : Nat), .int (hi : Nat)] ∧ (lo ≤ hi ∧ hi < 64) ∧ l.length ≤ 1000) ∨ ∃ (d : D) (lo hi : Nat), ds = [d, .int (lo : Nat), .int (hi : Nat)] ∧ (lo ≤ hi ∧ hi < 64) ∧ notTx d = true := by
  unfold phi_readF at h
  split at h
  · rename_i d lo hi
    have h1 := if_ok h
    rw [if_pos h1] at h
    have e1 : ((lo.toNat : Nat) : Int) = lo := by omega
    have e2 : ((hi.toNat : Nat) : Int) = hi := by omega
    split at h
    · rename_i z
      have h2 := if_ok h
      exact .inl ⟨z.cps.toList, lo.toNat, hi.toNat, by rw [e1, e2, D.tx, ← ofTx], by omega, h2⟩
    · have h2 := if_ok h
      exact .inr ⟨d, lo.toNat, hi.toNat, by rw [e1, e2], by omega, h2⟩
  · exact absurd rfl h
def optI : Option Nat → D
  | none => .non
  | some n => .int (n : Nat)
def phi_number_in_marks : List D → Ro := fTB fun l lo hi => .val (optI (oneN l lo hi))
theorem mnum_val {l : List Nat} {lo hi : Nat} (h : (lo ≤ hi ∧ hi ≤ 99) ∧ l.length ≤ 1000) : phi_number_in_marks [.tx l, .int (lo : Nat), .int (hi : Nat)] = .val (optI (oneN l lo hi)) := fTB_val h
theorem cutLT_len (l : List Nat) (i j : Option Int) : (PL.cutL l i j).length ≤ l.length := by
  unfold PL.cutL
  rw [List.length_take, List.length_drop]
  omega
def optM (aW aN aL aR aK aT aO aM : Addr) : Option Mrk → D
  | none => .non
  | some k => obM aW aN aL aR aK aT aO aM k
def phi_marked (aW aN aL aR aK aT aO aM : Addr) (f : List Nat → Option Mrk) : List D → Ro := fT fun l => if l.length ≤ 1000 then .val (optM aW aN aL aR aK aT aO aM (f l)) else .bad
theorem marked_val {aW aN aL aR aK aT aO aM : Addr} {f : List Nat → Option Mrk} {l : List Nat} (h : l.length ≤ 1000) : phi_marked aW aN aL aR aK aT aO aM f [.tx l] = .val (optM aW aN aL aR aK aT aO aM (f l)) := by
  exact if_pos h
theorem if_okP {c : Prop} {i : Decidable c} {r : Ro} (h : @ite _ c i r .bad ≠ .bad) : c := by
  by_cases q : c
  · exact q
  · rw [if_neg q] at h
    exact absurd rfl h
theorem wk_nat (m : Nat) : Builtin.bitOr (Builtin.bitAnd (m : Int) 127) ((m : Int) / (2 : Int) ^ Int.toNat 7) = ((wkMask m : Nat) : Int) := by
  rw [show (127 : Int) = ((127 : Nat) : Int) from rfl, and_nn, show (m : Int) / (2 : Int) ^ Int.toNat 7 = ((m >>> 7 : Nat) : Int) by rw [Nat.shiftRight_eq_div_pow]; push_cast; rfl, or_nat]
  rfl
theorem kit_self {K : PySem.W.Frag} {C : Addr} : PySem.W.kitOne K (.ref C) (.ref C) = some true := by simp [PySem.W.kitOne]
theorem boot_ValueError : bootBuiltins "ValueError" = some (.type "ValueError") := by decide +kernel

/-- what is read: a text, or a thing that is none -/
def readQ (wk : Bool) : D → (Nat × List Mrk) ⊕ Nat
  | .v (.str s) => readX wk s.cps.toList
  | _ => .inr 0
def thingL : List D := [.non, .int 5, .bl true, .lst [.tx [49] ], .tup [.tx [49] ], .dct [] [] ]
theorem thing_ok {d : D} (h : d ∈ thingL) : notTx d = true := by
  simp only [thingL, List.mem_cons, List.not_mem_nil, or_false] at h
  rcases h with rfl | rfl | rfl | rfl | rfl | rfl <;> rfl
theorem readQ_tx {wk : Bool} {l : List Nat} : readQ wk (.tx l) = readX wk l := by
  show readX wk (tx l).cps.toList = _
  simp
def okQ (d : D) : Prop := (∃ l : List Nat, d = .tx l ∧ l.length ≤ 10000) ∨ d ∈ thingL
theorem okQ_tx {l : List Nat} (h : l.length ≤ 10000) : okQ (.tx l) := .inl ⟨l, rfl, h⟩
theorem scan_len {wk : Bool} {its : List (List Nat)} : ∀ (as : List Nat) (y y' : Nat × List Mrk), y.2.length ≤ 20 → foldX (scanF wk its) as y = .inl y' → y'.2.length ≤ 20
  | [], y, y', h, e => by
    cases e
    exact h
  | k :: as, y, y', h, e => by
    unfold foldX at e
    cases q : scanF wk its y k with
    | inr z =>
      rw [q] at e
      cases e
    | inl z =>
      rw [q] at e
      refine scan_len as z y' ?_ e
      unfold scanF at q
      split at q
      · split at q
        · cases q
          exact h
        · cases q
      · split at q
        · cases q
        · cases q
          show (y.2 ++ [_]).length ≤ 20
          rw [List.length_append, List.length_singleton]
          omega
theorem readX_len {wk : Bool} {l : List Nat} {y : Nat × List Mrk} (e : readX wk l = .inl y) : y.2.length ≤ 40 := by
  unfold readX at e
  split at e
  · cases e
  · unfold scanX at e
    split at e
    · rename_i z q
      have := scan_len _ _ _ (Nat.zero_le _) q
      split at e
      · cases e
      · cases e
        omega
    · cases e
theorem readQ_odd {wk : Bool} {d : D} (h : notTx d = true) : readQ wk d = .inr 0 := by
  unfold readQ
  split
  · cases h
  · rfl
def phi_itemsX (C : Addr) : List D → Ro
  | [.v (.str s)] => if s.cps.toList.length ≤ 10000 then (if 300 < s.cps.toList.length then .exc C ["at"] [.int 0] else .fr (txs (itemsN s.cps.toList))) else .bad
  | [d] => if notTx d = true then .exc C ["at"] [.int 0] else .bad
  | _ => .bad
theorem itemsX_tx {C : Addr} {l : List Nat} (h : l.length ≤ 10000) : phi_itemsX C [.tx l] = if 300 < l.length then .exc C ["at"] [.int 0] else .fr (txs (itemsN l)) := by
  have e : (tx l).cps.toList = l := by simp
  show (if (tx l).cps.toList.length ≤ 10000 then (if 300 < (tx l).cps.toList.length then Ro.exc C ["at"] [.int 0] else .fr (txs (itemsN (tx l).cps.toList))) else .bad) = _
  rw [e, if_pos h]
theorem itemsX_odd {C : Addr} {d : D} (h : notTx d = true) : phi_itemsX C [d] = .exc C ["at"] [.int 0] := by
  unfold phi_itemsX
  split
  · rename_i e
    simp only [List.cons.injEq, and_true] at e
    subst e
    cases h
  · rename_i e
    simp only [List.cons.injEq, and_true] at e
    subst e
    exact if_pos h
  · rename_i h1 h2
    exact absurd rfl (h2 d)
theorem inv_itemsX {C : Addr} {ds : List D} (h : phi_itemsX C ds ≠ .bad) : (∃ l : List Nat, ds = [.tx l] ∧ l.length ≤ 10000) ∨ ∃ d, ds = [d] ∧ notTx d = true := by
  unfold phi_itemsX at h
  split at h
  · rename_i z
    exact .inl ⟨z.cps.toList, by rw [D.tx, ← ofTx], if_ok h⟩
  · exact .inr ⟨_, rfl, if_ok h⟩
  · exact absurd rfl h
def readRo (C : Addr) (f : Nat × List Mrk → Ro) : (Nat × List Mrk) ⊕ Nat → Ro
  | .inl y => f y
  | .inr k => .exc C ["at"] [.int (k : Nat)]
def dayL (wk : Bool) (y : Nat × List Mrk) : List Mrk := if nm wk y.1 = 0 then y.2 else pl wk (nm wk y.1) :: y.2
open Classical in
noncomputable def phi_plainX (aW aN aL aR aK aT aO aM C : Addr) (wk : Bool) (l : List Nat) (a : Nat) : List D → Ro := fun ds => if ds = [.tx l, .int (a : Nat), .int (loB wk : Nat), .int (hiB wk : Nat)] ∧ l.length ≤ 1000 then (if okP wk l = true then .val (.int (fieldN l (loB wk) (hiB wk) : Nat)) else .exc C ["at"] [.int (a : Nat)]) else .bad
open Classical in
theorem plainX_val {aW aN aL aR aK aT aO aM C : Addr} {wk : Bool} {l : List Nat} {a : Nat} (h : l.length ≤ 1000) : phi_plainX aW aN aL aR aK aT aO aM C wk l a [.tx l, .int (a : Nat), .int (loB wk : Nat), .int (hiB wk : Nat)] = (if okP wk l = true then .val (.int (fieldN l (loB wk) (hiB wk) : Nat)) else .exc C ["at"] [.int (a : Nat)]) := if_pos ⟨rfl, h⟩
open Classical in
noncomputable def phi_readIX (aW aN aL aR aK aT aO aM C : Addr) (u : Addr) (wk : Bool) (d : D) : List D → Ro := fun ds => if ds = [d, .v (.ref u), .int (loB wk : Nat), .int (hiB wk : Nat)] ∧ okQ d then (readRo C (fun y => .frP (.val (.int (y.1 : Nat))) (.own (y.2.map (obM aW aN aL aR aK aT aO aM)))) (readQ wk d)) else .bad
open Classical in
theorem readIX_val {aW aN aL aR aK aT aO aM C : Addr} {u : Addr} {wk : Bool} {d : D} (h : okQ d) : phi_readIX aW aN aL aR aK aT aO aM C u wk d [d, .v (.ref u), .int (loB wk : Nat), .int (hiB wk : Nat)] = (readRo C (fun y => .frP (.val (.int (y.1 : Nat))) (.own (y.2.map (obM aW aN aL aR aK aT aO aM)))) (readQ wk d)) := if_pos ⟨rfl, h⟩
open Classical in
noncomputable def phi_read_days (aW aN aL aR aK aT aO aM C : Addr) (d : D) : List D → Ro := fun ds => if ds = [d] ∧ okQ d then (if d = .tx [42] then .val .non else readRo C (fun y => .fr ((dayL false y).map (obM aW aN aL aR aK aT aO aM))) (readQ false d)) else .bad
open Classical in
theorem daysX_val {aW aN aL aR aK aT aO aM C : Addr} {d : D} (h : okQ d) : phi_read_days aW aN aL aR aK aT aO aM C d [d] = (if d = .tx [42] then .val .non else readRo C (fun y => .fr ((dayL false y).map (obM aW aN aL aR aK aT aO aM))) (readQ false d)) := if_pos ⟨rfl, h⟩
open Classical in
noncomputable def phi_read_weekdays (aW aN aL aR aK aT aO aM C : Addr) (d : D) : List D → Ro := fun ds => if ds = [d] ∧ okQ d then (if d = .tx [42] then .val .non else readRo C (fun y => .fr ((dayL true y).map (obM aW aN aL aR aK aT aO aM))) (readQ true d)) else .bad
open Classical in
theorem weekdaysX_val {aW aN aL aR aK aT aO aM C : Addr} {d : D} (h : okQ d) : phi_read_weekdays aW aN aL aR aK aT aO aM C d [d] = (if d = .tx [42] then .val .non else readRo C (fun y => .fr ((dayL true y).map (obM aW aN aL aR aK aT aO aM))) (readQ true d)) := if_pos ⟨rfl, h⟩

def optN : Option Nat → D
  | none => .non
  | some n => .int (n : Nat)
open Classical in
noncomputable def toldD (wk : Bool) (d : D) : D := if d = .tx [42] then .non else optN (placeO (readQ wk d))
open Classical in
noncomputable def phi_told (wk : Bool) (d : D) : List D → Ro := fun ds => if ds = [d, .bl wk] ∧ okQ d then .val (toldD wk d) else .bad
open Classical in
theorem told_val {wk : Bool} {d : D} (h : okQ d) : phi_told wk d [d, .bl wk] = .val (toldD wk d) := if_pos ⟨rfl, h⟩

def itD (p : List Nat × Bool) : D := .tup [.tx p.1, .bl p.2]
def shareN (a : Nat) : Nat := ([0, 26, 3] : List Nat).getD a 0
def manyN (a b c : Nat) : Nat := if a % 2 = 0 then 1 + b else 38 + c
def turnsN (b : Bool) (t : Int) (n : Nat) : List Nat := (digV b t (List.replicate n 210)).map Int.toNat
def itsL (b : Bool) (c t : Int) (wk : Bool) : List (List Nat × Bool) := match digV b c [4, 6, 5, 3, 3, 42, 42, 45, 45, 9] with
  | [a0, a1, a2, a3, a4, a5, a6, a7, a8, a9] => its3 wk (shareN a3.toNat) (turnsN b t (manyN a0.toNat a1.toNat a2.toNat)) a4.toNat a5.toNat a6.toNat a7.toNat a8.toNat a9.toNat
  | _ => []
theorem b10 {l : List Int} {s0 s1 s2 s3 s4 s5 s6 s7 s8 s9 : Int} (h : Bnd l [s0, s1, s2, s3, s4, s5, s6, s7, s8, s9]) : ∃ a0 a1 a2 a3 a4 a5 a6 a7 a8 a9 : Nat, l = [(a0 : Int), a1, a2, a3, a4, a5, a6, a7, a8, a9] ∧ (a0 : Int) < s0 ∧ (a1 : Int) < s1 ∧ (a2 : Int) < s2 ∧ (a3 : Int) < s3 ∧ (a4 : Int) < s4 ∧ (a5 : Int) < s5 ∧ (a6 : Int) < s6 ∧ (a7 : Int) < s7 ∧ (a8 : Int) < s8 ∧ (a9 : Int) < s9 := by
  obtain ⟨a0, r, rfl, h0, h⟩ := h.inv
  obtain ⟨a1, r, rfl, h1, h⟩ := h.inv
  obtain ⟨a2, r, rfl, h2, h⟩ := h.inv
  obtain ⟨a3, r, rfl, h3, h⟩ := h.inv
  obtain ⟨a4, a5, a6, a7, a8, a9, rfl, h4, h5, h6, h7, h8, h9⟩ := b6 h
  refine ⟨a0.toNat, a1.toNat, a2.toNat, a3.toNat, a4.toNat, a5.toNat, a6.toNat, a7.toNat, a8.toNat, a9.toNat, ?_, by omega, by omega, by omega, by omega, by omega, by omega, by omega, by omega, by omega, by omega⟩
  rw [Int.toNat_of_nonneg h0.1, Int.toNat_of_nonneg h1.1, Int.toNat_of_nonneg h2.1, Int.toNat_of_nonneg h3.1, Int.toNat_of_nonneg h4.1, Int.toNat_of_nonneg h5.1, Int.toNat_of_nonneg h6.1, Int.toNat_of_nonneg h7.1, Int.toNat_of_nonneg h8.1, Int.toNat_of_nonneg h9.1]
theorem bnd_rep : ∀ {n : Nat} {l : List Int} {s : Int}, Bnd l (List.replicate n s) → l.length = n ∧ (∀ x ∈ l, 0 ≤ x ∧ x < s)
  | 0, l, s, h => by
    cases h
    exact ⟨rfl, by simp⟩
  | n + 1, l, s, h => by
    rw [List.replicate_succ] at h
    obtain ⟨a, r, rfl, h1, h⟩ := h.inv
    obtain ⟨h2, h3⟩ := bnd_rep h
    refine ⟨by rw [List.length_cons, h2], fun x hx => ?_⟩
    rcases List.mem_cons.mp hx with rfl | hx
    · exact h1
    · exact h3 x hx
theorem turns_cast (b : Bool) (t : Int) (n : Nat) : digV b t (List.replicate n 210) = (turnsN b t n).map fun k : Nat => (k : Int) := by
  have h := bnd_rep (digV_ok b t (List.replicate n 210) fun s hs => by rw [List.eq_of_mem_replicate hs]; decide)
  unfold turnsN
  rw [List.map_map]
  refine (List.map_id'' (fun _ => rfl) _).symm.trans (List.map_congr_left fun x hx => ?_)
  have := (h.2 x hx).1
  show x = ((x.toNat : Nat) : Int)
  omega
theorem turns_len (b : Bool) (t : Int) (n : Nat) : (turnsN b t n).length = n := by
  unfold turnsN
  rw [List.length_map]
  exact (bnd_rep (digV_ok b t (List.replicate n 210) fun s hs => by rw [List.eq_of_mem_replicate hs]; decide)).1
theorem rep_flat1 {α : Type} (n : Nat) (x : α) : (List.replicate n [x]).flatten = List.replicate n x := by
  induction n with
  | zero => rfl
  | succ n ih => rw [List.replicate_succ, List.flatten_cons, ih, List.replicate_succ]; rfl
theorem its_dr {b : Bool} {c t : Int} {wk : Bool} : (∀ p ∈ itsL b c t wk, iok wk p = true) ∧ itsL b c t wk ≠ [] ∧ (itsL b c t wk).length ≤ 200 := by
  obtain ⟨a0, a1, a2, a3, a4, a5, a6, a7, a8, a9, e, h0, h1, h2, h3, h4, h5, h6, h7, h8, h9⟩ := b10 (digV_ok b c [4, 6, 5, 3, 3, 42, 42, 45, 45, 9] (by decide))
  unfold itsL
  rw [e]
  simp only [Int.toNat_natCast]
  have := its3_ok (wk := wk) (share := shareN a3) (ts := turnsN b t (manyN a0 a1 a2)) (n := a4) (p5 := a5) (p6 := a6) (p7 := a7) (p8 := a8) (p9 := a9) (by omega) (by omega)
  have hl := turns_len b t (manyN a0 a1 a2)
  have hm : 1 ≤ manyN a0 a1 a2 ∧ manyN a0 a1 a2 ≤ 50 := by
    unfold manyN
    split <;> omega
  exact ⟨this.1, List.length_pos_iff.mp (by omega), by omega⟩
def phi_law_right : List D → Ro
  | [.v (.int t), .v (.bl wk), .v (.bl g)] => if 0 ≤ t then .val (.tx (rightT wk g t.toNat)) else .bad
  | _ => .bad
theorem lright_val {t : Nat} {wk g : Bool} : phi_law_right [.int (t : Nat), .bl wk, .bl g] = .val (.tx (rightT wk g t)) := by
  show (if 0 ≤ (t : Int) then Ro.val (.tx (rightT wk g (t : Int).toNat)) else .bad) = _
  rw [if_pos (Int.natCast_nonneg t), Int.toNat_natCast]
def phi_law_wrong : List D → Ro
  | [.v (.int t), .v (.bl wk)] => if 0 ≤ t ∧ t < 45 then .val (.tx (wrongI wk t.toNat)) else .bad
  | _ => .bad
theorem lwrong_val {t : Nat} {wk : Bool} (h : t < 45) : phi_law_wrong [.int (t : Nat), .bl wk] = .val (.tx (wrongI wk t)) := if_pos (by omega)
noncomputable def phi_law_items : List D → Ro
  | [.v (.int c), .v (.int t), .v (.bl wk), .v (.bl b)] => .fr ((itsL b c t wk).map itD)
  | _ => .bad
def phi_law_is_mark : List D → Ro := fT fun l => .val (.bl (isMk l))
def phi_law_longest : List D → Ro
  | [.v (.bl wk)] => .val (.bl true)
  | _ => .bad
open Classical in
noncomputable def phi_law_due (ps : List (List Nat × Bool)) : List D → Ro := fun ds => if ds = [.lst (ps.map itD)] ∧ (ps.length ≤ 200 ∧ ((ps.map (·.1)).map (·.length)).sum ≤ 2000) then .val (optN (dueX ps)) else .bad
open Classical in
theorem due_val {ps : List (List Nat × Bool)} (h : (ps.length ≤ 200 ∧ ((ps.map (·.1)).map (·.length)).sum ≤ 2000)) : phi_law_due ps [.lst (ps.map itD)] = .val (optN (dueX ps)) := if_pos ⟨rfl, h⟩

theorem eqd_l : EqD (.lst [.tx [49] ]) (.tx [42]) false := ⟨⟨_, _, rfl, rfl, by decide +kernel, by decide +kernel, by decide +kernel⟩⟩
theorem eqd_t : EqD (.tup [.tx [49] ]) (.tx [42]) false := ⟨⟨_, _, rfl, rfl, by decide +kernel, by decide +kernel, by decide +kernel⟩⟩
theorem its_ix {ps : List (List Nat × Bool)} {k : Nat} (hk : k < ps.length) : atI (ps.map itD) (k : Int) = some (itD (ps.getD k ([], false))) := by
  refine atI_nat ?_
  rw [List.getElem?_map, List.getD_eq_getElem?_getD, List.getElem?_eq_getElem hk]
  rfl
theorem thing_ix {k : Int} (h : 0 ≤ k ∧ k < 6) : ∃ d ∈ thingL, atI thingL k = some d := by
  have h2 : k.toNat < thingL.length := by
    show k.toNat < 6
    omega
  exact ⟨thingL[k.toNat], List.getElem_mem h2, ix_nat h.1 (List.getElem?_eq_getElem h2)⟩
theorem notTx_ne {d : D} {l : List Nat} (h : notTx d = true) : d ≠ .tx l := fun e => by
  rw [e] at h
  cases h
theorem told_odd {wk : Bool} {d : D} (h : notTx d = true) : toldD wk d = .int 0 := by
  unfold toldD
  rw [if_neg (notTx_ne h), readQ_odd h]
  rfl
theorem told_due {wk : Bool} {ps : List (List Nat × Bool)} (hp : ∀ p ∈ ps, iok wk p = true) (ne : ps ≠ []) : toldD wk (.tx (joinL [44] (ps.map (·.1)))) = optN (dueX ps) := by
  unfold toldD
  rw [readQ_tx, ← read_due hp ne]
  by_cases q : D.tx (joinL [44] (ps.map (·.1))) = .tx [42]
  · rw [if_pos q]
    have q' : joinL [44] (ps.map (·.1)) = [42] := by
      have : tx (joinL [44] (ps.map (·.1))) = tx [42] := by
        simp only [D.tx, D.v.injEq, V.str.injEq] at q
        exact q
      exact tx_eq.mp this
    rw [q']
    have : placeO (readX wk [42]) = none := by cases wk <;> decide +kernel
    rw [this]
    rfl
  · rw [if_neg q]
def week40 : List Nat := joinL [44] (List.replicate 40 [48, 45, 54, 47, 57, 57])
def days40 (l : List Nat) : List Nat := joinL [44] (List.replicate 36 [49, 48, 45, 50, 48, 47, 50] ++ [[49, 48], [49, 48], [49, 48]] ++ [l])
theorem told_tx {wk : Bool} {l : List Nat} {o : Option Nat} (h : (decide (l = [42]) || !decide (placeO (readX wk l) = o)) = false) : toldD wk (.tx l) = optN o := by
  rw [Bool.or_eq_false_iff, decide_eq_false_iff_not, Bool.not_eq_false', decide_eq_true_eq] at h
  unfold toldD
  rw [if_neg fun q => h.1 (tx_eq.mp (by simpa only [D.tx, D.v.injEq, V.str.injEq] using q)), readQ_tx, h.2]
theorem told_w40 : toldD true (.tx week40) = .non := told_tx (o := none) (by decide +kernel)
theorem told_d40 : toldD false (.tx (days40 [49, 45, 50])) = .non := told_tx (o := none) (by decide +kernel)
theorem told_d41 : toldD false (.tx (days40 [49, 45, 49, 50])) = .int 0 := told_tx (o := some 0) (by decide +kernel)
theorem told_1 (wk : Bool) : toldD wk (.tx [49, 44, 42, 10]) = .int 1 := told_tx (o := some 1) (by cases wk <;> decide +kernel)
theorem told_2 (wk : Bool) : toldD wk (.tx [10, 42]) = .int 0 := told_tx (o := some 0) (by cases wk <;> decide +kernel)
theorem told_long {wk : Bool} {l : List Nat} (h : 300 < l.length) : toldD wk (.tx l) = .int 0 := by
  unfold toldD
  rw [if_neg fun q => by
    have : l = [42] := tx_eq.mp (by simpa only [D.tx, D.v.injEq, V.str.injEq] using q)
    rw [this] at h
    simp at h, readQ_tx]
  unfold readX
  rw [if_pos h]
  rfl

theorem right_ix (wk g : Bool) (t : Nat) : atI (txs (rightL wk g)) ((t : Int) % (bif g then 6 else 7)) = some (.tx (rightT wk g t)) := by
  have e : (t : Int) % (bif g then 6 else 7) = ((t % (bif g then 6 else 7) : Nat) : Int) := by
    cases g <;> (simp only [cond_true, cond_false]; omega)
  rw [e]
  refine txs_ix ?_
  cases g <;> cases wk <;> exact Nat.mod_lt _ (by decide)
theorem foldl_snoc {α β : Type} (f : α → β) : ∀ (l : List α) (y : List β), l.foldl (fun y x => y ++ [f x]) y = y ++ l.map f
  | [], y => by simp
  | x :: l, y => by
    rw [List.foldl_cons, foldl_snoc f l, List.map_cons, List.append_assoc]
    rfl
theorem dueX_eq {ps : List (List Nat × Bool)} (h : ¬300 < (joinL [44] (ps.map (·.1))).length) : optN (dueX ps) = Sum.elim (fun _ : Nat => optN (if 40 < ps.length then some 40 else none)) (fun k : Nat => D.int (k : Nat)) (foldX (dueF ps) (List.range (min (40 : Int) ((ps.map itD).length : Nat)).toNat) 0) := by
  unfold dueX
  rw [if_neg h, show (min (40 : Int) ((ps.map itD).length : Nat)).toNat = min 40 ps.length by rw [List.length_map]; omega]
  cases foldX (dueF ps) (List.range (min 40 ps.length)) 0 <;> rfl
theorem pairs_app (a b : List (List Nat × Bool)) : (a ++ b).map itD = a.map itD ++ b.map itD := List.map_append
theorem pairs_rep (n : Nat) (p : List Nat × Bool) : (List.replicate n [itD p]).flatten = (List.replicate n p).map itD := by
  rw [rep_flat1, List.map_replicate]
theorem pairs_rep2 (n : Nat) (p q : List Nat × Bool) : (List.replicate n [itD p, itD q]).flatten = ((List.replicate n [p, q]).flatten).map itD := by
  rw [List.map_flatten, List.map_replicate]
  rfl
theorem due_dig (b : Bool) (t : Int) (n : Nat) (h : n ≤ 1000) : phi_law_digits [.int t, .lst (List.replicate ((n : Nat) : Int).toNat [D.int 210]).flatten, .bl b] = .fr ((turnsN b t n).map fun k : Nat => D.int (k : Nat)) := by
  rw [Int.toNat_natCast, rep_flat1, show List.replicate n (D.int 210) = (List.replicate n (210 : Int)).map D.int by rw [List.map_replicate], dig_val (fun s hs => by rw [List.eq_of_mem_replicate hs]; decide) (by rw [List.length_replicate]; exact h), turns_cast, List.map_map]
  rfl

section
variable {P : Program} {w : World} {K : PySem.W.Frag} {mg : Str → Option Value} {base : Heap}
variable {a_FieldError a_NoDay a_NoMoment a_NoField a_NoRow a_NoBook a_NoClock a_NoName a_NoWord a_Mark a_Numbers a_Last a_Near a_LastWork a_Weekdays a_Nth a_LastOne : Addr}
theorem ok_only_figures (T : DefAt K mg "only_figures" s_only_figures ["signs"]) (g_FIGURES_wholes : GlD K mg "FIGURES_wholes" d_FIGURES_wholes) : FnC P w K mg base "only_figures" 1 1 phi_only_figures := by
  refine def_ok T sc_only_figures (nk := nk_only_figures) rfl (by decide +kernel) rfl fun X W ds B S hl nb => ?_
  obtain ⟨l, rfl, _⟩ := inv_T nb
  refine ⟨.ret (.bl (onlyF l)), ?_, .ret _⟩
  by_cases h : (l.any fun c => !decide (c ∈ figs)) = true
  · have e : onlyF l = false := by
      unfold onlyF
      obtain ⟨c, hc, h2⟩ := List.any_eq_true.mp h
      rw [Bool.and_eq_false_iff]
      exact .inl (List.all_eq_false.mpr ⟨c, hc, by simpa using h2⟩)
    rw [e]
    refine x_forX B S (xi_str (x_var B 0 0)) (fo_stop (o := .ret (.bl false)) (fun c => !decide (c ∈ figs)) trivial (by simp) (by simp) (fun c hc => ⟨[_, _], (x_tgt B S.fn 1 1), fun q => ?_, fun q => ?_⟩) h) trivial
    · exact xb_ifT (t_notInT (x_var B 1 1) (x_gd B 2 g_FIGURES_wholes)) q (x_ret xe_bl) trivial
    · exact xb_ifF (t_notInT (x_var B 1 1) (x_gd B 2 g_FIGURES_wholes)) q (xb_end (by (repeat' (first | exact WkL.nil | apply WkL.cons)) <;> (first | exact Wk.same _ | exact Wk.no _)))
  · have h' := Bool.eq_false_iff.mpr h
    refine x_for B S (xi_str (x_var B 0 0)) (fo_allM fun c hc => ⟨[_, _], (x_tgt B S.fn 1 1), ?_⟩) ?_
    · exact xb_ifF (t_notInT (x_var B 1 1) (x_gd B 2 g_FIGURES_wholes)) (Bool.eq_false_iff.mpr fun q => h (List.any_eq_true.mpr ⟨c, hc, q⟩)) (xb_end (by (repeat' (first | exact WkL.nil | apply WkL.cons)) <;> (first | exact Wk.same _ | exact Wk.no _)))
    · refine (x_ret (x_neT (x_var B 0 0) (x_lit []))).is ?_
      unfold onlyF
      have : (l.all fun c => decide (c ∈ figs)) = true := List.all_eq_true.mpr fun c hc => by
        have := List.any_eq_false.mp h' c hc
        by_cases q : c ∈ figs
        · exact decide_eq_true q
        · exact absurd (by rw [decide_eq_false q]; rfl) this
      rw [this, Bool.true_and]
theorem ok_mask_of (T : DefAt K mg "mask_of" s_mask_of ["numbers"]) : FnC P w K mg base "mask_of" 1 1 phi_mask_of := by
  refine def_ok T sc_mask_of (nk := nk_mask_of) rfl (by decide +kernel) rfl fun X W ds B S hl nb => ?_
  obtain ⟨l, rfl, hl1, hl2, e⟩ := inv_N nb
  refine ⟨.ret (.int (maskOf l : Nat)), ?_, by
    rw [show phi_mask_of [.lst (nl l)] = _ from e]
    exact .ret _⟩
  refine (x_setE B S 1 1 (ρ1 := [_, _, _]) xe_int rfl ?_)
  refine x_for B S (xi_list (x_var B 0 0)) (fo_fold (fun y : Nat => [.val (.lst (nl l)), .val (.int (y : Nat)), .no]) (fun y d => y ||| 2 ^ (toInt1 d).toNat) (y := 0) (fun _ r => ∀ d ∈ r, ∃ n : Nat, d = .int (n : Nat) ∧ n < 64) (fun d hd => by
    unfold nl at hd
    rw [List.map_map] at hd
    obtain ⟨n, hn, rfl⟩ := List.mem_map.mp hd
    exact ⟨n, rfl, hl1 n hn⟩) fun y d r hp => ⟨fun x hx => hp x (List.mem_cons_of_mem _ hx), ?_⟩) ?_
  · obtain ⟨n, rfl, hn⟩ := hp d List.mem_cons_self
    refine ⟨[_, _, _], (x_tgt B S.fn 2 2), ?_⟩
    exact (x_setE B S 1 1 (ρ1 := [_, _, _]) ((x_bin (x_var B 1 1) (x_bin xe_int (x_var B 2 2) (.shlI _ _ ⟨by omega, by omega, by decide⟩)) (.orI _ _)).is (ornat y n)) rfl (xb_end (by (repeat' (first | exact WkL.nil | apply WkL.cons)) <;> (first | exact Wk.same _ | exact Wk.no _))))
  rw [fold_nl]
  exact x_ret (x_var B 1 1)
theorem ok_number_in_fields (T : DefAt2 K mg "number_in_fields" "number_in" s_number_in_fields ["text", "low", "high"]) (c_only_figures : FnC P w K mg base "only_figures" 1 1 phi_only_figures) (m_len : mg "len" = none) (m_int : mg "int" = none) : FnC P w K mg base "number_in_fields" 2 3 phi_number_in_fields := by
  refine def_ok2 T sc_number_in_fields (nk := nk_number_in_fields) rfl (by decide +kernel) rfl fun X W ds B S hl nb => ?_
  obtain ⟨l, lo, hi, rfl, hb, hl, e, _⟩ := inv_TB nb
  refine ⟨.retO (nl (numN l lo hi)), ?_, by
    rw [show phi_number_in_fields [.tx l, .int (lo : Nat), .int (hi : Nat)] = _ from e]
    exact .fr _⟩
  refine xb_if (B := badNum l) ((xv_or (xt_not (xt_val (x_call B c_only_figures 3 (xa_cons (x_var B 0 0) xa_nil) rfl))) fun hq0 => (xv_or (xt_cmpv (x_lenT B 4 m_len (x_var B 0 0) (by omega)) xe_int (.gt _ _)) fun hq1 => (xv_or1 ((xv_and (t_eqT (x_ixC (x_var B 0 0) xe_int (onlyF_at hq0) (by omega)) (x_lit [48])) fun hq0 => (xv_and1 (t_neT (x_var B 0 0) (x_lit [48]))))).t)))).t (fun h => ⟨?_, trivial⟩) fun h => ?_
  · rw [show numN l lo hi = [] from if_pos h]
    exact (x_retO (xo_lst xa_nil)).is rfl
  · have hf : onlyF l = true := by
      unfold badNum at h
      simp only [Bool.or_eq_false_iff] at h
      simpa using h.1
    have hlen : l.length ≤ 2 := by
      unfold badNum at h
      simp only [Bool.or_eq_false_iff, decide_eq_false_iff_not] at h
      omega
    have e2 : nl (numN l lo hi) = (([NumText.digitsVal l] : List Nat).filter (fun n => decide (lo ≤ n) && decide (n ≤ hi))).map fun n => D.int (n : Nat) := by
      unfold numN
      rw [if_neg (by rw [h]; decide)]
      by_cases q : lo ≤ NumText.digitsVal l ∧ NumText.digitsVal l ≤ hi
      · rw [if_pos q]
        simp [nl, q.1, q.2]
      · rw [if_neg q]
        by_cases q1 : lo ≤ NumText.digitsVal l <;> by_cases q2 : NumText.digitsVal l ≤ hi <;> simp_all [nl]
    rw [e2]
    refine x_retO (xo_lcE B (own := [("number", 3)]) (ρ2 := [_, _, _, _]) (okb B) (xi_list (xo_lst (xa_cons (x_intT B 5 m_int (x_var B 0 0) (onlyF_int hf (by omega)) (by omega)) xa_nil)).dat) (by simp) rfl (lc_fil (F := fun n => D.int (n : Nat)) (fun n => decide (lo ≤ n) && decide (n ≤ hi)) (as := [NumText.digitsVal l]) ?lc))
    case lc =>
      intro n hn
      exact ⟨[_, _, _, _], blk_of (nkc := [(".0", .«local»), ("number", .«local»), ("high", .free), ("low", .free)]) rfl (by decide +kernel) B fun Y Bc => (x_tgw Bc 3 1), blk_of (nkc := [(".0", .«local»), ("number", .«local»), ("high", .free), ("low", .free)]) rfl (by decide +kernel) B fun Y Bc => ((t_chain (x_var Bc 1 3) (x_var Bc 3 1) (.le _ _) (fun hc => (x_var Bc 2 2)) (fun hc => (.le _ _)))).is (by rw [Bool.eq_iff_iff]; simp), fun _ => blk_of (nkc := [(".0", .«local»), ("number", .«local»), ("high", .free), ("low", .free)]) rfl (by decide +kernel) B fun Y Bc => (x_var Bc 3 1)⟩
theorem ok_span_in (T : DefAt K mg "span_in" s_span_in ["text", "low", "high"]) (c_number_in_fields : FnC P w K mg base "number_in_fields" 2 3 phi_number_in_fields) (m_len : mg "len" = none) : FnC P w K mg base "span_in" 3 3 phi_span_in := by
  refine def_ok T sc_span_in (nk := nk_span_in) rfl (by decide +kernel) rfl fun X W ds B S hl nb => ?_
  obtain ⟨l, lo, hi, rfl, hb, hl, e, _⟩ := inv_TB nb
  refine ⟨.retO (nl (spanN l lo hi)), ?_, by
    rw [show phi_span_in [.tx l, .int (lo : Nat), .int (hi : Nat)] = _ from e]
    exact .fr _⟩
  refine xb_if (t_eqT (x_var B 0 0) (x_lit [42])) (fun h => ⟨?_, trivial⟩) fun h => ?_
  · rw [show spanN l lo hi = [lo, hi] from if_pos (by simpa using h)]
    exact (x_retO (xo_lst (xa_cons (x_var B 1 1) (xa_cons (x_var B 2 2) xa_nil)))).is rfl
  have hn : l ≠ [42] := by simpa using h
  have hs := spl_len [45] l 0 []
  refine (x_setLcE B S 3 3 (own := [("part", 4)]) (ρ2 := [_, _, _, _, _]) (ρ1 := [_, _, _, _, _]) (okb B) (xi_list (x_split (x_var B 0 0) (x_lit [45]) (by omega) (by decide)).dat) (by unfold txs; rw [List.length_map]; omega) rfl (lc_mapM (F := D.tx) (G := fun p => listN (numN p lo hi)) ?lc) rfl ?_)
  case lc =>
    intro p hp
    have := hs.2 p hp
    simp only [List.length_nil] at this
    exact ⟨[_, _, _, _, _], blk_of (nkc := [(".0", .«local»), ("part", .«local»), ("number_in_fields", .globalImplicit), ("high", .free), ("low", .free)]) rfl (by decide +kernel) B fun Y Bc => (x_tgw Bc 4 1), blk_of (nkc := [(".0", .«local»), ("part", .«local»), ("number_in_fields", .globalImplicit), ("high", .free), ("low", .free)]) rfl (by decide +kernel) B fun Y Bc => (x_callO Bc c_number_in_fields 2 (xa_cons (x_var Bc 4 1) (xa_cons (x_var Bc 1 4) (xa_cons (x_var Bc 2 3) xa_nil))) (fnum_val ⟨hb, by omega⟩)).dat⟩
  rw [show (TL.spl [45] 0 [] l).map (fun p => listN (numN p lo hi)) = (endsN l lo hi).map listN by unfold endsN; rw [List.map_map]; rfl]
  refine xb_freezeE (ρ1 := [_, _, _, _, _]) 3 rfl rfl ?_
  have ne := ends_ne l lo hi
  have hsp : spanN l lo hi = if badSpan (endsN l lo hi) = true then [] else [((endsN l lo hi).headD []).headD 0, ((endsN l lo hi).getLastD []).headD 0] := if_neg hn
  rw [hsp]
  generalize endsN l lo hi = es at *
  refine xb_if (B := badSpan es) (XT.is ((xv_or (xt_cmpv (x_len B 4 m_len (x_var B 3 3) (by first | exact .lst _ | exact .tup _ | exact .str _ (by first | assumption | omega | decide))) xe_int (.gt _ _)) fun hq0 => (xv_or (t_inD B (xo_lst xa_nil).dat (x_var B 3 3) (inD_nl es)) fun hq1 => (xv_or1 (xt_cmpv (x_ix (x_ix (x_var B 3 3) xe_int (.lst _ _ _ (at_headF [] ne))) xe_int (.lst _ _ _ (nl_head (any_ne hq1 (head_mem ne))))) (x_ix (x_ix (x_var B 3 3) (xe_neg xe_int) (.lst _ _ _ (at_lastF [] ne))) xe_int (.lst _ _ _ (nl_head (any_ne hq1 (last_mem ne))))) (.gt _ _)))))).t ?bs) (fun h => ⟨?_, trivial⟩) fun h => ?_
  case bs =>
    unfold badSpan
    rw [List.length_map, Bool.or_assoc]
  · rw [if_pos h]
    exact (x_retO (xo_lst xa_nil)).is rfl
  · rw [if_neg (by rw [h]; decide)]
    have ha : (es.any fun e => decide (e = [])) = false := by
      unfold badSpan at h
      simp only [Bool.or_eq_false_iff] at h
      exact h.1.2
    exact (x_retO (xo_lst (xa_cons (x_ix (x_ix (x_var B 3 3) xe_int (.lst _ _ _ (at_headF [] ne))) xe_int (.lst _ _ _ (nl_head (any_ne ha (head_mem ne))))) (xa_cons (x_ix (x_ix (x_var B 3 3) (xe_neg xe_int) (.lst _ _ _ (at_lastF [] ne))) xe_int (.lst _ _ _ (nl_head (any_ne ha (last_mem ne))))) xa_nil)))).is rfl
theorem ok_item_mask (T : DefAt K mg "item_mask" s_item_mask ["item", "low", "high"]) (c_span_in : FnC P w K mg base "span_in" 3 3 phi_span_in) (c_mask_of : FnC P w K mg base "mask_of" 1 1 phi_mask_of) (c_number_in_fields : FnC P w K mg base "number_in_fields" 2 3 phi_number_in_fields) (c_only_figures : FnC P w K mg base "only_figures" 1 1 phi_only_figures) (m_len : mg "len" = none) (m_list : mg "list" = none) (m_range : mg "range" = none) (g_MOST_STRIDE : GlD K mg "MOST_STRIDE" d_MOST_STRIDE) : FnC P w K mg base "item_mask" 4 3 phi_item_mask := by
  refine def_ok T sc_item_mask (nk := nk_item_mask) rfl (by decide +kernel) rfl fun X W ds B S hl nb => ?_
  obtain ⟨l, lo, hi, rfl, hb, hl, e, nb2⟩ := inv_TB nb
  have hh : hi < 64 := by
    by_cases q : hi < 64
    · exact q
    · rw [if_neg q] at nb2
      exact absurd rfl nb2
  rw [if_pos hh] at e
  refine ⟨.ret (.int (itemN l lo hi : Nat)), ?_, by
    rw [show phi_item_mask [.tx l, .int (lo : Nat), .int (hi : Nat)] = _ from e]
    exact .ret _⟩
  refine (x_setOE B S 3 3 (ρ1 := [_, _, _, _, _, _]) (x_split (x_var B 0 0) (x_lit [47]) (by omega) (by decide)) rfl ?_)
  have hs := spl_len [47] l 0 []
  have ne := spl_ne [47] l 0 []
  rw [show itemN l lo hi = (let hs := TL.spl [47] 0 [] l
    match spanN (hs.headD []) lo hi with
    | [a, b] => if 2 < hs.length then 0 else if hs.length = 1 then maskOf ((List.range (b + 1 - a)).map fun q => a + q) else
        match numN (hs.getD 1 []) 1 99 with
        | [s] => maskOf (stepsN a (if onlyF (hs.headD []) = true then hi else b) s)
        | _ => 0
    | _ => 0) from rfl]
  generalize TL.spl [47] 0 [] l = hs' at *
  refine xb_freezeE (ρ1 := [_, _, _, _, _, _]) 3 rfl rfl ?_
  have hp : ∀ p ∈ hs', p.length ≤ 1000 := fun p hp => by
    have := hs.2 p hp
    simp only [List.length_nil] at this
    omega
  have h0 := head_mem (d := []) ne
  refine (x_setOE B S 4 4 (ρ1 := [_, _, _, _, _, _]) (x_callO B c_span_in 6 (xa_cons (x_ix (x_var B 3 3) xe_int (.lst _ _ _ (at_headF [] ne))) (xa_cons (x_var B 1 1) (xa_cons (x_var B 2 2) xa_nil))) (span_val ⟨hb, hp _ h0⟩)) rfl ?_)
  rcases spanN_shape (hs'.headD []) lo hi hb.1 with q | ⟨a, b, q, qa, qb, qc⟩
  · simp only [q]
    refine xb_ifT ((xv_or (t_eqD B (x_own B 4 4) ((xo_lst xa_nil).dat).w (eqD_nl _ [])) fun hq0 => (xv_or1 (xt_cmpv (x_len B 7 m_len (x_var B 3 3) (by first | exact .lst _ | exact .tup _ | exact .str _ (by first | assumption | omega | decide))) xe_int (.gt _ _))))).t ?_ (x_ret xe_int) trivial
    simp
  simp only [q]
  refine xb_if ((xv_or (t_eqD B (x_own B 4 4) ((xo_lst xa_nil).dat).w (eqD_nl _ [])) fun hq0 => (xv_or1 (xt_cmpv (x_len B 7 m_len (x_var B 3 3) (by first | exact .lst _ | exact .tup _ | exact .str _ (by first | assumption | omega | decide))) xe_int (.gt _ _))))).t (fun h => ⟨?_, trivial⟩) fun h => ?_
  · have h' : 2 < hs'.length := by
      simp [txs] at h
      omega
    rw [if_pos h']
    exact x_ret xe_int
  have h' : ¬ 2 < hs'.length := by
    simp [txs] at h
    omega
  rw [if_neg h']
  refine xb_if (xt_cmpv (x_len B 7 m_len (x_var B 3 3) (by first | exact .lst _ | exact .tup _ | exact .str _ (by first | assumption | omega | decide))) xe_int (by first | exact .eqI _ _ | exact .eqS _ _ | exact .eqB _ _)) (fun h => ⟨?_, trivial⟩) fun h => ?_
  · have h1 : hs'.length = 1 := by
      simp only [decide_eq_true_eq, txs, List.length_map] at h
      omega
    rw [if_pos h1]
    have m1 : ∀ n ∈ (List.range (b + 1 - a)).map fun q => a + q, n < 64 := fun n hn => by
      obtain ⟨q, hq, rfl⟩ := List.mem_map.mp hn
      have := List.mem_range.mp hq
      omega
    have m2 : ((List.range (b + 1 - a)).map fun q => a + q).length ≤ 1000 := by
      simp
      omega
    exact x_ret (x_call B c_mask_of 8 (xa_cons (x_listR2 B 9 10 m_list m_range (x_ixQ (x_ownQ B 4 4) xe_int ix0) (x_bin (x_ixQ (x_ownQ B 4 4) xe_int ix1) xe_int (by first | exact .addI _ _ | exact .catS _ _ (by first | assumption | omega | decide))) (by exact ⟨by omega, by omega, by omega, by omega, by omega⟩)).dat xa_nil) (by rw [span_nl]; exact fmask_val m1 m2))
  have h1 : hs'.length ≠ 1 := by
    simp only [decide_eq_false_iff_not, txs, List.length_map] at h
    omega
  rw [if_neg h1]
  have h2 : hs'.length = 2 := by
    have : hs'.length ≠ 0 := fun z => ne (List.eq_nil_of_length_eq_zero z)
    omega
  refine (x_setOE B S 5 5 (ρ1 := [_, _, _, _, _, _]) (x_callO B c_number_in_fields 11 (xa_cons (x_ix (x_var B 3 3) xe_int (.lst _ _ _ (ixh1 (by omega)))) (xa_cons xe_int (xa_cons (x_gd B 12 g_MOST_STRIDE) xa_nil))) (fnum_val (lo := 1) (hi := 99) ⟨by decide, hp _ ?h7⟩)) rfl ?_)
  case h7 =>
    match hs', h2 with
    | [x, y], _ => simp
  refine xb_if (t_eqD B (x_own B 5 5) ((xo_lst xa_nil).dat).w (eqD_nl _ [])) (fun h => ⟨?_, trivial⟩) fun h => ?_
  · have h3 : numN (hs'.getD 1 []) 1 99 = [] := by simpa using h
    simp only [h3]
    exact x_ret xe_int
  have h3 : numN (hs'.getD 1 []) 1 99 ≠ [] := by simpa using h
  obtain ⟨s, hs3⟩ : ∃ s, numN (hs'.getD 1 []) 1 99 = [s] := ⟨_, numN_one h3⟩
  have hs4 := numN_mem (n := s) (by rw [hs3]; exact List.mem_singleton.mpr rfl)
  simp only [hs3]
  refine xb_ifm (ρ1 := [.val (.tx l), .val (.int (lo : Nat)), .val (.int (hi : Nat)), .val (.lst (txs hs')), .own (nl [a, if onlyF (hs'.headD []) = true then hi else b]), .own (nl [s])]) (xt_val (x_call B c_only_figures 13 (xa_cons (x_ix (x_var B 3 3) xe_int (.lst _ _ _ (at_headF [] ne))) xa_nil) rfl)) (fun h => ?_) (fun h => ?_) ?_
  · rw [if_pos h]
    exact x_stE B 4 4 (ρ1 := [_, _, _, _, _, _]) rfl (x_var B 2 2) xe_int (by rfl) rfl xb_nil
  · rw [if_neg (by rw [h]; decide)]
    exact xb_nil
  have hz : (if onlyF (hs'.headD []) = true then hi else b) < 64 := by split <;> omega
  generalize (if onlyF (hs'.headD []) = true then hi else b) = z at *
  have m1 : ∀ n ∈ stepsN a z s, n < 64 := fun n hn => by
    have := (mem_steps (by omega)).mp hn
    omega
  have m2 : (stepsN a z s).length ≤ 1000 := by
    have := steps_len (a := a) (b := z) (s := s) (by omega)
    omega
  exact x_ret (x_call B c_mask_of 8 (xa_cons (x_listR3 B 9 10 m_list m_range (x_ixQ (x_ownQ B 4 4) xe_int ix0) (x_bin (x_ixQ (x_ownQ B 4 4) xe_int ix1) xe_int (by first | exact .addI _ _ | exact .catS _ _ (by first | assumption | omega | decide))) (x_ixQ (x_ownQ B 5 5) xe_int ix0) (by omega)).dat xa_nil) (by rw [steps_nl]; exact fmask_val m1 m2))
theorem ok_read_field (T : DefAt K mg "read_field" s_read_field ["text", "low", "high"]) (c_item_mask : FnC P w K mg base "item_mask" 4 3 phi_item_mask) (m_isinstance : mg "isinstance" = none) (m_str : mg "str" = none) (m_len : mg "len" = none) (m_enumerate : mg "enumerate" = none) (g_MOST_SIGNS_fields : GlD K mg "MOST_SIGNS_fields" d_MOST_SIGNS_fields) (g_MOST_ITEMS_fields : GlD K mg "MOST_ITEMS_fields" d_MOST_ITEMS_fields) (x_NoField : ExCls K mg "NoField" a_NoField) (i_NoField : ExI P w K mg base "NoField" a_NoField "at") : FnC P w K mg base "read_field" 5 3 (phi_readF a_NoField) := by
  refine def_ok T sc_read_field (nk := nk_read_field) rfl (by decide +kernel) rfl fun X W ds B S hl nb => ?_
  rcases inv_readF nb with ⟨l, lo, hi, rfl, hb, hl⟩ | ⟨d, lo, hi, rfl, hb, hd⟩
  rotate_left
  · rw [readF_odd hb hd]
    refine ⟨.exc a_NoField ["at"] [.int 0] [.val d, .val (.int (lo : Nat)), .val (.int (hi : Nat)), .no, .no, .no, .no, .no], ?_, .exc _ _ _ _⟩
    cases d with
    | v x => cases x with
      | non => exact xb_ifT (XV.t (xv_orT (xt_not (xt_val (x_isi B 8 9 m_isinstance (x_var B 0 0) (x_cls B 9 m_str boot_str) (.ty _) (by first | exact .int _ | exact .bl _ | exact .str _ | exact .tup _ | exact .lst _ | exact .non | exact .dct _ _) kit_is))) (by rfl))) rfl (x_raiseI B S i_NoField 12 xe_int) trivial
      | bl b => exact xb_ifT (XV.t (xv_orT (xt_not (xt_val (x_isi B 8 9 m_isinstance (x_var B 0 0) (x_cls B 9 m_str boot_str) (.ty _) (by first | exact .int _ | exact .bl _ | exact .str _ | exact .tup _ | exact .lst _ | exact .non | exact .dct _ _) kit_is))) (by rfl))) rfl (x_raiseI B S i_NoField 12 xe_int) trivial
      | int i => exact xb_ifT (XV.t (xv_orT (xt_not (xt_val (x_isi B 8 9 m_isinstance (x_var B 0 0) (x_cls B 9 m_str boot_str) (.ty _) (by first | exact .int _ | exact .bl _ | exact .str _ | exact .tup _ | exact .lst _ | exact .non | exact .dct _ _) kit_is))) (by rfl))) rfl (x_raiseI B S i_NoField 12 xe_int) trivial
      | str z => cases hd
      | _ => cases hd
    | lst m => exact xb_ifT (XV.t (xv_orT (xt_not (xt_val (x_isi B 8 9 m_isinstance (x_var B 0 0) (x_cls B 9 m_str boot_str) (.ty _) (by first | exact .int _ | exact .bl _ | exact .str _ | exact .tup _ | exact .lst _ | exact .non | exact .dct _ _) kit_is))) (by rfl))) rfl (x_raiseI B S i_NoField 12 xe_int) trivial
    | tup m => exact xb_ifT (XV.t (xv_orT (xt_not (xt_val (x_isi B 8 9 m_isinstance (x_var B 0 0) (x_cls B 9 m_str boot_str) (.ty _) (by first | exact .int _ | exact .bl _ | exact .str _ | exact .tup _ | exact .lst _ | exact .non | exact .dct _ _) kit_is))) (by rfl))) rfl (x_raiseI B S i_NoField 12 xe_int) trivial
    | dct ks m => exact xb_ifT (XV.t (xv_orT (xt_not (xt_val (x_isi B 8 9 m_isinstance (x_var B 0 0) (x_cls B 9 m_str boot_str) (.ty _) (by first | exact .int _ | exact .bl _ | exact .str _ | exact .tup _ | exact .lst _ | exact .non | exact .dct _ _) kit_is))) (by rfl))) rfl (x_raiseI B S i_NoField 12 xe_int) trivial
    | _ => cases hd
  rw [readF_tx hb hl]
  by_cases h3 : 300 < l.length
  · rw [fieldR_long h3]
    refine ⟨.exc a_NoField ["at"] [.int 0] [.val (.tx l), .val (.int (lo : Nat)), .val (.int (hi : Nat)), .no, .no, .no, .no, .no], ?_, .exc _ _ _ _⟩
    exact xb_ifT ((xv_or (xt_not (xt_val (x_isi B 8 9 m_isinstance (x_var B 0 0) (x_cls B 9 m_str boot_str) (.ty _) (by first | exact .int _ | exact .bl _ | exact .str _ | exact .tup _ | exact .lst _ | exact .non | exact .dct _ _) kit_is))) fun hq0 => (xv_or1 (xt_cmpv (x_lenT B 10 m_len (x_var B 0 0) (by omega)) (x_gd B 11 g_MOST_SIGNS_fields) (.gt _ _))))).t (by simp; omega) (x_raiseI B S i_NoField 12 xe_int) trivial
  have hs := (spl_len [44] l 0 []).2
  unfold fieldR
  rw [if_neg h3]
  unfold fieldN
  have ei : TL.spl [44] 0 [] l = itemsN l := rfl
  rw [ei] at hs
  have st : ∀ o, XB X W [.val (.tx l), .val (.int (lo : Nat)), .val (.int (hi : Nat)), .val (.int 0), .val (.lst (txs (itemsN l))), .no, .no, .no] ((defBody s_read_field).drop 3) o → XB X W (startE N_read_field [.tx l, .int (lo : Nat), .int (hi : Nat)]) (defBody s_read_field) o := fun o ho => by
    refine xb_ifF ((xv_or (xt_not (xt_val (x_isi B 8 9 m_isinstance (x_var B 0 0) (x_cls B 9 m_str boot_str) (.ty _) (by first | exact .int _ | exact .bl _ | exact .str _ | exact .tup _ | exact .lst _ | exact .non | exact .dct _ _) kit_is))) fun hq0 => (xv_or1 (xt_cmpv (x_lenT B 10 m_len (x_var B 0 0) (by omega)) (x_gd B 11 g_MOST_SIGNS_fields) (.gt _ _))))).t ?bb ?_
    case bb =>
      show (!true || decide (((l.length : Nat) : Int) > 300)) = false
      simp
      omega
    refine (x_setE B S 3 3 (ρ1 := [_, _, _, _, _, _, _, _]) xe_int rfl ?_)
    refine (x_setOE B S 4 4 (ρ1 := [_, _, _, _, _, _, _, _]) (x_split (x_var B 0 0) (x_lit [44]) (by omega) (by decide)) rfl ?_)
    exact xb_freezeE (ρ1 := [_, _, _, _, _, _, _, _]) 4 rfl rfl ho
  generalize itemsN l = its at *
  have key : ∃ o, XB X W [.val (.tx l), .val (.int (lo : Nat)), .val (.int (hi : Nat)), .val (.int ((0 : Nat) : Int)), .val (.lst (txs its)), .no, .no, .no] ((defBody s_read_field).drop 3) o ∧ Leads o (match badAt its lo hi with
      | none => if 40 < its.length then Ro.exc a_NoField ["at"] [.int 40] else .val (.int (its.foldl (fun m p => m ||| itemN p lo hi) 0 : Nat))
      | some i => .exc a_NoField ["at"] [.int (i : Nat)]) := by
    refine x_enumX B S (F := D.tx) (fun y : Nat => [.val (.tx l), .val (.int (lo : Nat)), .val (.int (hi : Nat)), .val (.int (y : Nat)), .val (.lst (txs its)), .no, .no, .no]) (fun y p => y ||| itemN p lo hi) (fun p => decide (itemN p lo hi = 0)) (fun i => [.int (i : Nat)]) (as := its.take 40) (y := 0) (fun _ r => ∀ p ∈ r, p ∈ its) (cut40 its ▸ (x_enum B 13 m_enumerate (x_sliceL ((x_var B 4 4)).q xp_none (xp_some (x_gd B 14 g_MOST_ITEMS_fields))).dat)) (fun p hp => List.mem_of_mem_take hp) (fun y p r n hr => ?_) (fun e => ?_)
    · have hp := hr p List.mem_cons_self
      have hpl := hs p hp
      refine ⟨[_, _, _, _, _, _, _, _], (xg_tup B.calm (xgs_cons (x_tgt B S.fn 5 5) (xgs_cons (x_tgt B S.fn 6 6) xgs_nil)) rfl), fun h => ?_, fun h => ⟨fun x hx => hr x (List.mem_cons_of_mem _ hx), ?_⟩⟩
      · refine ⟨[.val (.tx l), .val (.int (lo : Nat)), .val (.int (hi : Nat)), .val (.int (y : Nat)), .val (.lst (txs its)), .val (.int (n : Nat)), .val (.tx p), .val (.int (itemN p lo hi : Nat))], ?_⟩
        refine (x_setE B S 7 7 (ρ1 := [_, _, _, _, _, _, _, _]) (x_call B c_item_mask 15 (xa_cons (x_var B 6 6) (xa_cons (x_var B 1 1) (xa_cons (x_var B 2 2) xa_nil))) (fitem_val hb (by simp only [List.length_nil] at hpl; omega))) rfl ?_)
        exact xb_ifT (xt_cmpv (x_var B 7 7) xe_int (by first | exact .eqI _ _ | exact .eqS _ _ | exact .eqB _ _)) (by simpa using h) (x_raiseI B S i_NoField 12 (x_var B 5 5)) trivial
      · refine (x_setE B S 7 7 (ρ1 := [_, _, _, _, _, _, _, _]) (x_call B c_item_mask 15 (xa_cons (x_var B 6 6) (xa_cons (x_var B 1 1) (xa_cons (x_var B 2 2) xa_nil))) (fitem_val hb (by simp only [List.length_nil] at hpl; omega))) rfl ?_)
        refine xb_ifF (xt_cmpv (x_var B 7 7) xe_int (by first | exact .eqI _ _ | exact .eqS _ _ | exact .eqB _ _)) (by simpa using h) ?_
        exact (x_setE B S 3 3 (ρ1 := [_, _, _, _, _, _, _, _]) ((x_bin (x_var B 3 3) (x_var B 7 7) (.orI _ _)).is (congrArg D.int (or_nat _ _))) rfl (xb_end (by (repeat' (first | exact WkL.nil | apply WkL.cons)) <;> (first | exact Wk.same _ | exact Wk.no _))))
    · have en : (((txs its).length : Nat) : Int) = (its.length : Int) := by rw [txs_len]
      by_cases h4 : 40 < its.length
      · rw [if_pos h4]
        exact ⟨_, xb_ifT (B := decide ((((txs its).length : Nat) : Int) > 40)) (xt_cmpv (x_len B 10 m_len (x_var B 4 4) (by first | exact .lst _ | exact .tup _ | exact .str _ (by first | assumption | omega | decide))) (x_gd B 14 g_MOST_ITEMS_fields) (.gt _ _)) (by rw [en]; simp; omega) (x_raiseI B S i_NoField 12 (x_gd B 14 g_MOST_ITEMS_fields)) trivial, .exc _ _ _ [.val (.tx l), .val (.int (lo : Nat)), .val (.int (hi : Nat)), .val (.int ((its.take 40).foldl (fun y p => y ||| itemN p lo hi) 0 : Nat)), .val (.lst (txs its)), .no, .no, .no]⟩
      · rw [if_neg h4]
        refine ⟨_, xb_ifF (B := decide ((((txs its).length : Nat) : Int) > 40)) (xt_cmpv (x_len B 10 m_len (x_var B 4 4) (by first | exact .lst _ | exact .tup _ | exact .str _ (by first | assumption | omega | decide))) (x_gd B 14 g_MOST_ITEMS_fields) (.gt _ _)) (by rw [en]; simp; omega) ?_, .ret (.int (its.foldl (fun m p => m ||| itemN p lo hi) 0 : Nat))⟩
        exact (x_ret (x_var B 3 3)).is (by rw [List.take_of_length_le (by omega)])
  obtain ⟨o, h1, h2⟩ := key
  refine ⟨o, st o h1, ?_⟩
  revert h2
  cases badAt its lo hi <;> exact id
theorem ok_Numbers_init {f : Addr} {fd : FuncData} (T : Fun K "__init__" "Numbers.__init__" s_Numbers_init f fd) (o_Numbers : ObC K mg "Numbers" a_Numbers ["mask"]) : FnOk P w K mg base (L2N.CX P w) 1 f fd ["self", "mask"] (spI K a_Numbers 1 phi_Numbers_init) := by
  refine fn_okI T sc_Numbers_init (nk := nk_Numbers_init) rfl (by decide +kernel) rfl fun X W q ds B S hl nb => ?_
  obtain ⟨d, rfl⟩ : ∃ d, ds = [d] := by
    unfold phi_Numbers_init at nb
    split at nb
    · exact ⟨_, rfl⟩
    · exact absurd rfl nb
  refine ⟨.nx [.slf q a_Numbers ["mask"] [d], .val d], ?_, .nx _ _ _ rfl⟩
  exact (x_fldE B 0 0 (ρ1 := [_, _]) rfl (x_var B 1 1) o_Numbers.cl (o_Numbers.na _ (by decide +kernel)) rfl xb_nil)
theorem ok_Last_init {f : Addr} {fd : FuncData} (T : FunD K "__init__" "Last.__init__" (defArgs s_Last_init) (defBody s_Last_init) (defScope s_Last_init) [.int 0] [] f fd) (o_Last : ObC K mg "Last" a_Last ["back"]) : FnOk P w K mg base (L2N.CX P w) 1 f fd ["self", "back"] (spI K a_Last 1 phi_Last_init) := by
  refine fn_okID T sc_Last_init (nk := nk_Last_init) rfl (by decide +kernel) rfl fun X W q ds B S hl nb => ?_
  obtain ⟨d, rfl⟩ : ∃ d, ds = [d] := by
    unfold phi_Last_init at nb
    split at nb
    · exact ⟨_, rfl⟩
    · exact absurd rfl nb
  refine ⟨.nx [.slf q a_Last ["back"] [d], .val d], ?_, .nx _ _ _ rfl⟩
  exact (x_fldE B 0 0 (ρ1 := [_, _]) rfl (x_var B 1 1) o_Last.cl (o_Last.na _ (by decide +kernel)) rfl xb_nil)
theorem ok_Near_init {f : Addr} {fd : FuncData} (T : Fun K "__init__" "Near.__init__" s_Near_init f fd) (o_Near : ObC K mg "Near" a_Near ["day"]) : FnOk P w K mg base (L2N.CX P w) 1 f fd ["self", "day"] (spI K a_Near 1 phi_Near_init) := by
  refine fn_okI T sc_Near_init (nk := nk_Near_init) rfl (by decide +kernel) rfl fun X W q ds B S hl nb => ?_
  obtain ⟨d, rfl⟩ : ∃ d, ds = [d] := by
    unfold phi_Near_init at nb
    split at nb
    · exact ⟨_, rfl⟩
    · exact absurd rfl nb
  refine ⟨.nx [.slf q a_Near ["day"] [d], .val d], ?_, .nx _ _ _ rfl⟩
  exact (x_fldE B 0 0 (ρ1 := [_, _]) rfl (x_var B 1 1) o_Near.cl (o_Near.na _ (by decide +kernel)) rfl xb_nil)
theorem ok_Nth_init {f : Addr} {fd : FuncData} (T : Fun K "__init__" "Nth.__init__" s_Nth_init f fd) (o_Nth : ObC K mg "Nth" a_Nth ["weekday", "many"]) : FnOk P w K mg base (L2N.CX P w) 1 f fd ["self", "weekday", "many"] (spI K a_Nth 2 phi_Nth_init) := by
  refine fn_okI T sc_Nth_init (nk := nk_Nth_init) rfl (by decide +kernel) rfl fun X W q ds B S hl nb => ?_
  obtain ⟨d, e, rfl⟩ : ∃ d e, ds = [d, e] := by
    unfold phi_Nth_init at nb
    split at nb
    · exact ⟨_, _, rfl⟩
    · exact absurd rfl nb
  refine ⟨.nx [.slf q a_Nth ["weekday", "many"] [d, e], .val d, .val e], ?_, .nx _ _ _ rfl⟩
  exact (x_fldE B 0 0 (ρ1 := [_, _, _]) rfl (x_var B 1 1) o_Nth.cl (o_Nth.na _ (by decide +kernel)) rfl (x_fldE B 0 0 (ρ1 := [_, _, _]) rfl (x_var B 2 2) o_Nth.cl (o_Nth.na _ (by decide +kernel)) rfl xb_nil))
theorem ok_LastOne_init {f : Addr} {fd : FuncData} (T : Fun K "__init__" "LastOne.__init__" s_LastOne_init f fd) (o_LastOne : ObC K mg "LastOne" a_LastOne ["weekday"]) : FnOk P w K mg base (L2N.CX P w) 1 f fd ["self", "weekday"] (spI K a_LastOne 1 phi_LastOne_init) := by
  refine fn_okI T sc_LastOne_init (nk := nk_LastOne_init) rfl (by decide +kernel) rfl fun X W q ds B S hl nb => ?_
  obtain ⟨d, rfl⟩ : ∃ d, ds = [d] := by
    unfold phi_LastOne_init at nb
    split at nb
    · exact ⟨_, rfl⟩
    · exact absurd rfl nb
  refine ⟨.nx [.slf q a_LastOne ["weekday"] [d], .val d], ?_, .nx _ _ _ rfl⟩
  exact (x_fldE B 0 0 (ρ1 := [_, _]) rfl (x_var B 1 1) o_LastOne.cl (o_LastOne.na _ (by decide +kernel)) rfl xb_nil)
theorem ok_Weekdays_init {f : Addr} {fd : FuncData} (T : Fun K "__init__" "Weekdays.__init__" s_Weekdays_init f fd) (o_Weekdays : ObC K mg "Weekdays" a_Weekdays ["mask"]) : FnOk P w K mg base (L2N.CX P w) 1 f fd ["self", "mask"] (spI K a_Weekdays 1 phi_Weekdays_init) := by
  refine fn_okI T sc_Weekdays_init (nk := nk_Weekdays_init) rfl (by decide +kernel) rfl fun X W q ds B S hl nb => ?_
  obtain ⟨d, rfl⟩ : ∃ d, ds = [d] := by
    unfold phi_Weekdays_init at nb
    split at nb
    · exact ⟨_, rfl⟩
    · exact absurd rfl nb
  refine ⟨.nx [.slf q a_Weekdays ["mask"] [d], .val d], ?_, .nx _ _ _ rfl⟩
  exact (x_fldE B 0 0 (ρ1 := [_, _]) rfl (x_var B 1 1) o_Weekdays.cl (o_Weekdays.na _ (by decide +kernel)) rfl xb_nil)
theorem ok_number_in_marks (T : DefAt2 K mg "number_in_marks" "number_in" s_number_in_marks ["text", "low", "high"]) (m_len : mg "len" = none) (m_int : mg "int" = none) (g_FIGURES_marks : GlD K mg "FIGURES_marks" d_FIGURES_marks) : FnC P w K mg base "number_in_marks" 1 3 phi_number_in_marks := by
  refine def_ok2 T sc_number_in_marks (nk := nk_number_in_marks) rfl (by decide +kernel) rfl fun X W ds B S hl nb => ?_
  obtain ⟨l, lo, hi, rfl, hb, hl, e, _⟩ := inv_TB nb
  refine ⟨.ret (optI (oneN l lo hi)), ?_, by
    rw [show phi_number_in_marks [.tx l, .int (lo : Nat), .int (hi : Nat)] = _ from e]
    exact .ret _⟩
  have bad : badNum l = true → optI (oneN l lo hi) = .non := fun h => by
    unfold oneN numN
    rw [if_pos h]
    rfl
  have bq : badNum l = (!onlyF l || (decide (((l.length : Nat) : Int) > 2) || (decide ([l.headD 0] = ([48] : List Nat)) && !decide (l = [48])))) := rfl
  refine xb_if ((xv_or (t_eqT (x_var B 0 0) (x_lit [])) fun hq0 => (xv_or1 (xt_cmpv (x_lenT B 5 m_len (x_var B 0 0) (by omega)) xe_int (.gt _ _))))).t (fun h => ⟨(x_ret xe_non).is ?a, trivial⟩) fun h => ?_
  case a =>
    rw [bad ?_]
    rw [bq]
    simp only [Bool.or_eq_true, decide_eq_true_eq] at h ⊢
    rcases h with h | h
    · exact .inl (by rw [h]; rfl)
    · exact .inr (.inl h)
  simp only [Bool.or_eq_false_iff, decide_eq_false_iff_not] at h
  obtain ⟨hne, hl2⟩ := h
  by_cases hf : (l.any fun c => !decide (c ∈ figs)) = true
  · refine (x_forX B S (xi_str (x_var B 0 0)) (fo_stop (o := .ret .non) (fun c => !decide (c ∈ figs)) trivial (by simp) (by simp) (fun c hc => ⟨[_, _, _, _, _], (x_tgt B S.fn 3 3), fun q => ?_, fun q => ?_⟩) hf) trivial).is ?_
    · exact xb_ifT (t_notInT (x_var B 3 3) (x_gd B 6 g_FIGURES_marks)) q (x_ret xe_non) trivial
    · exact xb_ifF (t_notInT (x_var B 3 3) (x_gd B 6 g_FIGURES_marks)) q (xb_end (by (repeat' (first | exact WkL.nil | apply WkL.cons)) <;> (first | exact Wk.same _ | exact Wk.no _)))
    · rw [bad ?_]
      rw [bq]
      obtain ⟨c, hc, h2⟩ := List.any_eq_true.mp hf
      have : onlyF l = false := by
        unfold onlyF
        rw [Bool.and_eq_false_iff]
        exact .inl (List.all_eq_false.mpr ⟨c, hc, by simpa using h2⟩)
      rw [this]
      rfl
  have hf' := Bool.eq_false_iff.mpr hf
  refine x_for B S (xi_str (x_var B 0 0)) (fo_allM fun c hc => ⟨[_, _, _, _, _], (x_tgt B S.fn 3 3), xb_ifF (t_notInT (x_var B 3 3) (x_gd B 6 g_FIGURES_marks)) (Bool.eq_false_iff.mpr fun q => hf (List.any_eq_true.mpr ⟨c, hc, q⟩)) (xb_end (by (repeat' (first | exact WkL.nil | apply WkL.cons)) <;> (first | exact Wk.same _ | exact Wk.no _)))⟩) ?_
  have ho : onlyF l = true := by
    unfold onlyF
    have : (l.all fun c => decide (c ∈ figs)) = true := List.all_eq_true.mpr fun c hc => by
      have := List.any_eq_false.mp hf' c hc
      by_cases q : c ∈ figs
      · exact decide_eq_true q
      · exact absurd (by rw [decide_eq_false q]; rfl) this
    rw [this, decide_eq_false hne]
    rfl
  refine xb_if ((xv_and (t_eqT (x_ixC (x_var B 0 0) xe_int (onlyF_at (by rw [ho]; rfl)) (by omega)) (x_lit [48])) fun hq0 => (xv_and1 (t_neT (x_var B 0 0) (x_lit [48]))))).t (fun h => ⟨(x_ret xe_non).is ?a, trivial⟩) fun h => ?_
  case a =>
    rw [bad ?_]
    rw [bq, ho, h]
    simp
  have hbn : badNum l = false := by
    rw [bq, ho, h]
    simp
    omega
  refine (x_setE B S 4 4 (ρ1 := [_, _, _, _, _]) (x_intT B 7 m_int (x_var B 0 0) (onlyF_int ho (by omega)) (by omega)) rfl ?_)
  have en : oneN l lo hi = if lo ≤ NumText.digitsVal l ∧ NumText.digitsVal l ≤ hi then some (NumText.digitsVal l) else none := by
    unfold oneN numN
    rw [if_neg (by rw [hbn]; decide)]
    split <;> rfl
  rw [en]
  refine xb_if ((xv_or (xt_cmpv (x_var B 4 4) (x_var B 1 1) (.lt _ _)) fun hq0 => (xv_or1 (xt_cmpv (x_var B 4 4) (x_var B 2 2) (.gt _ _))))).t (fun h => ⟨(x_ret xe_non).is ?a, trivial⟩) fun h => (x_ret (x_var B 4 4)).is ?_
  case a =>
    simp only [Bool.or_eq_true, decide_eq_true_eq] at h
    rw [if_neg (by omega)]
    rfl
  simp only [Bool.or_eq_false_iff, decide_eq_false_iff_not] at h
  rw [if_pos (by omega)]
  rfl
theorem ok_day_mark (T : DefAt K mg "day_mark" s_day_mark ["item"]) (c_number_in_marks : FnC P w K mg base "number_in_marks" 1 3 phi_number_in_marks) (o_Last : ObC K mg "Last" a_Last ["back"]) (o_LastWork : ObC K mg "LastWork" a_LastWork []) (o_Near : ObC K mg "Near" a_Near ["day"]) (k_Last : MkC P w K mg base a_Last 1 1 [] phi_Last_init) (k_Last_d : MkC P w K mg base a_Last 1 1 [.int 0] phi_Last_init) (k_LastWork : Mk0 K a_LastWork) (k_Near : MkC P w K mg base a_Near 1 1 [] phi_Near_init) : FnC P w K mg base "day_mark" 3 1 (phi_marked a_Weekdays a_Numbers a_Last a_Near a_LastWork a_Nth a_LastOne a_Mark (mkF false)) := by
  refine def_ok T sc_day_mark (nk := nk_day_mark) rfl (by decide +kernel) rfl fun X W ds B S hl nb => ?_
  obtain ⟨l, rfl, hb⟩ := inv_T nb
  have hl := if_okP hb
  refine ⟨.ret (optM a_Weekdays a_Numbers a_Last a_Near a_LastWork a_Nth a_LastOne a_Mark (dayM l)), ?_, by
    rw [show phi_marked a_Weekdays a_Numbers a_Last a_Near a_LastWork a_Nth a_LastOne a_Mark (mkF false) [.tx l] = _ from marked_val hl]
    exact .ret _⟩
  refine xb_if (t_eqT (x_var B 0 0) (x_lit [76])) (fun h => ⟨(x_ret (x_make0 B o_Last.mg_ k_Last_d 2 rfl)).is ?a1, trivial⟩) fun h1 => ?_
  case a1 =>
    simp only [decide_eq_true_eq] at h
    unfold dayM
    rw [if_pos h]
    rfl
  simp only [decide_eq_false_iff_not] at h1
  refine xb_if (t_eqT (x_var B 0 0) (x_lit [76, 87])) (fun h => ⟨(x_ret (x_make00 B o_LastWork.mg_ k_LastWork 3)).is ?a2, trivial⟩) fun h2 => ?_
  case a2 =>
    simp only [decide_eq_true_eq] at h
    unfold dayM
    rw [if_neg h1, if_pos h]
    rfl
  simp only [decide_eq_false_iff_not] at h2
  have e0 : dayM l = (match (if PL.cutL l none (some 2) = [76, 45] then oneN (PL.cutL l (some 2) none) 1 30 else none) with
    | some n => some (.last n)
    | none => match (if PL.cutL l (some (-1)) none = [87] then oneN (PL.cutL l none (some (-1))) 1 31 else none) with
      | some n => some (.near n)
      | none => none) := by
    unfold dayM
    rw [if_neg h1, if_neg h2] <;> rfl
  refine xb_ifG (ρ1 := [.val (.tx l), .no]) ((if PL.cutL l none (some 2) = [76, 45] then oneN (PL.cutL l (some 2) none) 1 30 else none) = none) (t_eqT (x_sliceT (x_var B 0 0) xp_none (xp_some xe_int) (by omega)) (x_lit [76, 45])) (fun q => ?_) (fun q => ⟨if_neg (by simpa using q), xb_nil⟩) fun e1 => ?_
  · have q1 : PL.cutL l none (some 2) = [76, 45] := by simpa using q
    rw [if_pos q1] at e0 ⊢
    have v := mnum_val (l := PL.cutL l (some 2) none) (lo := 1) (hi := 30) ⟨by decide, Nat.le_trans (cutLT_len l _ _) hl⟩
    cases q2 : oneN (PL.cutL l (some 2) none) 1 30 with
    | some n =>
      rw [q2] at v e0
      have q3 := oneN_le q2
      refine .inl ⟨?_, trivial⟩
      refine (x_setE B S 1 1 (ρ1 := [_, _]) (x_call B c_number_in_marks 4 (xa_cons (x_sliceT (x_var B 0 0) (xp_some xe_int) xp_none (by omega)) (xa_cons xe_int (xa_cons xe_int xa_nil))) v) rfl ?_)
      refine xb_ifT (xt_cmpv (x_var B 1 1) xe_non (.notN _)) rfl ((x_ret (x_make B o_Last.mg_ k_Last 2 (xa_cons (x_var B 1 1) xa_nil) rfl)).is ?_) trivial
      rw [e0]
      rfl
    | none =>
      rw [q2] at v
      refine .inr ⟨rfl, ?_⟩
      refine (x_setE B S 1 1 (ρ1 := [_, _]) (x_call B c_number_in_marks 4 (xa_cons (x_sliceT (x_var B 0 0) (xp_some xe_int) xp_none (by omega)) (xa_cons xe_int (xa_cons xe_int xa_nil))) v) rfl ?_)
      exact xb_ifF (xt_cmpv (x_var B 1 1) xe_non (.notN _)) rfl (xb_end (by (repeat' (first | exact WkL.nil | apply WkL.cons)) <;> (first | exact Wk.same _ | exact Wk.no _)))
  rw [e1] at e0
  refine xb_ifG (ρ1 := [.val (.tx l), .no]) ((if PL.cutL l (some (-1)) none = [87] then oneN (PL.cutL l none (some (-1))) 1 31 else none) = none) (t_eqT (x_sliceT (x_var B 0 0) (xp_some (xe_neg xe_int)) xp_none (by omega)) (x_lit [87])) (fun q => ?_) (fun q => ⟨if_neg (by simpa using q), xb_nil⟩) fun e2 => ?_
  · have q1 : PL.cutL l (some (-1)) none = [87] := by simpa using q
    rw [if_pos q1] at e0 ⊢
    have v := mnum_val (l := PL.cutL l none (some (-1))) (lo := 1) (hi := 31) ⟨by decide, Nat.le_trans (cutLT_len l _ _) hl⟩
    cases q2 : oneN (PL.cutL l none (some (-1))) 1 31 with
    | some n =>
      rw [q2] at v e0
      have q3 := oneN_le q2
      refine .inl ⟨?_, trivial⟩
      refine (x_setE B S 1 1 (ρ1 := [_, _]) (x_call B c_number_in_marks 4 (xa_cons (x_sliceT (x_var B 0 0) xp_none (xp_some (xe_neg xe_int)) (by omega)) (xa_cons xe_int (xa_cons xe_int xa_nil))) v) rfl ?_)
      refine xb_ifT (xt_cmpv (x_var B 1 1) xe_non (.notN _)) rfl ((x_ret (x_make B o_Near.mg_ k_Near 5 (xa_cons (x_var B 1 1) xa_nil) rfl)).is ?_) trivial
      rw [e0]
      rfl
    | none =>
      rw [q2] at v
      refine .inr ⟨rfl, ?_⟩
      refine (x_setE B S 1 1 (ρ1 := [_, _]) (x_call B c_number_in_marks 4 (xa_cons (x_sliceT (x_var B 0 0) xp_none (xp_some (xe_neg xe_int)) (by omega)) (xa_cons xe_int (xa_cons xe_int xa_nil))) v) rfl ?_)
      exact xb_ifF (xt_cmpv (x_var B 1 1) xe_non (.notN _)) rfl (xb_end (by (repeat' (first | exact WkL.nil | apply WkL.cons)) <;> (first | exact Wk.same _ | exact Wk.no _)))
  refine (x_ret xe_non).is ?_
  rw [e0, e2]
  rfl
theorem ok_weekday_mark (T : DefAt K mg "weekday_mark" s_weekday_mark ["item"]) (c_number_in_marks : FnC P w K mg base "number_in_marks" 1 3 phi_number_in_marks) (o_LastOne : ObC K mg "LastOne" a_LastOne ["weekday"]) (o_Nth : ObC K mg "Nth" a_Nth ["weekday", "many"]) (k_LastOne : MkC P w K mg base a_LastOne 1 1 [] phi_LastOne_init) (k_Nth : MkC P w K mg base a_Nth 1 2 [] phi_Nth_init) (m_len : mg "len" = none) : FnC P w K mg base "weekday_mark" 3 1 (phi_marked a_Weekdays a_Numbers a_Last a_Near a_LastWork a_Nth a_LastOne a_Mark (mkF true)) := by
  refine def_ok T sc_weekday_mark (nk := nk_weekday_mark) rfl (by decide +kernel) rfl fun X W ds B S hl nb => ?_
  obtain ⟨l, rfl, hb⟩ := inv_T nb
  have hl := if_okP hb
  refine ⟨.ret (optM a_Weekdays a_Numbers a_Last a_Near a_LastWork a_Nth a_LastOne a_Mark (weekMk l)), ?_, by
    rw [show phi_marked a_Weekdays a_Numbers a_Last a_Near a_LastWork a_Nth a_LastOne a_Mark (mkF true) [.tx l] = _ from marked_val hl]
    exact .ret _⟩
  have e0 : weekMk l = (match (if PL.cutL l (some (-1)) none = [76] then oneN (PL.cutL l none (some (-1))) 0 7 else none) with
    | some n => some (.lone (n % 7))
    | none => match spl [35] 0 [] l with
      | [a, b] => match oneN a 0 7, oneN b 1 5 with
        | some n, some m => some (.nth (n % 7) m)
        | _, _ => none
      | _ => none) := rfl
  refine xb_ifG (ρ1 := [.val (.tx l), .no, .no, .no]) ((if PL.cutL l (some (-1)) none = [76] then oneN (PL.cutL l none (some (-1))) 0 7 else none) = none) (t_eqT (x_sliceT (x_var B 0 0) (xp_some (xe_neg xe_int)) xp_none (by omega)) (x_lit [76])) (fun q => ?_) (fun q => ⟨if_neg (by simpa using q), xb_nil⟩) fun e1 => ?_
  · have q1 : PL.cutL l (some (-1)) none = [76] := by simpa using q
    rw [if_pos q1] at e0 ⊢
    have v := mnum_val (l := PL.cutL l none (some (-1))) (lo := 0) (hi := 7) ⟨by decide, Nat.le_trans (cutLT_len l _ _) hl⟩
    cases q2 : oneN (PL.cutL l none (some (-1))) 0 7 with
    | some n =>
      rw [q2] at v e0
      have q3 := oneN_le q2
      refine .inl ⟨?_, trivial⟩
      refine (x_setE B S 1 1 (ρ1 := [_, _, _, _]) (x_call B c_number_in_marks 4 (xa_cons (x_sliceT (x_var B 0 0) xp_none (xp_some (xe_neg xe_int)) (by omega)) (xa_cons xe_int (xa_cons xe_int xa_nil))) v) rfl ?_)
      refine xb_ifT (xt_cmpv (x_var B 1 1) xe_non (.notN _)) rfl ((x_ret (x_make B o_LastOne.mg_ k_LastOne 5 (xa_cons (x_bin (x_var B 1 1) xe_int (.modI _ _ (by decide))) xa_nil) rfl)).is ?_) trivial
      rw [e0]
      rfl
    | none =>
      rw [q2] at v
      refine .inr ⟨rfl, ?_⟩
      refine (x_setE B S 1 1 (ρ1 := [_, _, _, _]) (x_call B c_number_in_marks 4 (xa_cons (x_sliceT (x_var B 0 0) xp_none (xp_some (xe_neg xe_int)) (by omega)) (xa_cons xe_int (xa_cons xe_int xa_nil))) v) rfl ?_)
      exact xb_ifF (xt_cmpv (x_var B 1 1) xe_non (.notN _)) rfl (xb_end (by (repeat' (first | exact WkL.nil | apply WkL.cons)) <;> (first | exact Wk.same _ | exact Wk.no _)))
  rw [e1] at e0
  refine (x_setOE B S 2 2 (ρ1 := [_, _, _, _]) (x_split (x_var B 0 0) (x_lit [35]) (by omega) (by decide)) rfl ?_)
  refine xb_freezeE (ρ1 := [_, _, _, _]) 2 rfl rfl ?_
  have hs := (spl_len [35] l 0 []).2
  generalize spl [35] 0 [] l = ps at *
  by_cases h2 : ps.length = 2
  · obtain ⟨a, b, rfl⟩ : ∃ a b, ps = [a, b] := by
      match ps, h2 with
      | [a, b], _ => exact ⟨a, b, rfl⟩
    have va := mnum_val (l := a) (lo := 0) (hi := 7) ⟨by decide, by have := hs a (by simp); simp at this; omega⟩
    have vb := mnum_val (l := b) (lo := 1) (hi := 5) ⟨by decide, by have := hs b (by simp); simp at this; omega⟩
    dsimp only at e0
    cases q1 : oneN a 0 7 with
    | none =>
      rw [q1] at va e0
      refine xb_ifN (ρ1 := [.val (.tx l), .no, .no, .no]) (xt_cmpv (x_len B 6 m_len (x_var B 2 2) (by first | exact .lst _ | exact .tup _ | exact .str _ (by first | assumption | omega | decide))) xe_int (by first | exact .eqI _ _ | exact .eqS _ _ | exact .eqB _ _)) rfl ?_ ((x_ret xe_non).is (by rw [e0]; rfl))
      refine (x_setE B S 1 1 (ρ1 := [_, _, _, _]) (x_call B c_number_in_marks 4 (xa_cons (x_ix (x_var B 2 2) xe_int (by first | exact .tup _ _ _ rfl | exact .lst _ _ _ rfl)) (xa_cons xe_int (xa_cons xe_int xa_nil))) va) rfl ?_)
      refine (x_setE B S 3 3 (ρ1 := [_, _, _, _]) (x_call B c_number_in_marks 4 (xa_cons (x_ix (x_var B 2 2) xe_int (by first | exact .tup _ _ _ rfl | exact .lst _ _ _ rfl)) (xa_cons xe_int (xa_cons xe_int xa_nil))) vb) rfl ?_)
      cases oneN b 1 5 with
      | none => exact xb_ifF ((xv_and (xt_cmpv (x_var B 1 1) xe_non (.notN _)) fun hq0 => (xv_and1 (xt_cmpv (x_var B 3 3) xe_non (.notN _))))).t rfl (xb_end (by (repeat' (first | exact WkL.nil | apply WkL.cons)) <;> (first | exact Wk.same _ | exact Wk.no _)))
      | some m => exact xb_ifF ((xv_and (xt_cmpv (x_var B 1 1) xe_non (.notN _)) fun hq0 => (xv_and1 (xt_cmpv (x_var B 3 3) xe_non (.notN _))))).t rfl (xb_end (by (repeat' (first | exact WkL.nil | apply WkL.cons)) <;> (first | exact Wk.same _ | exact Wk.no _)))
    | some n =>
      have q3 := oneN_le q1
      rw [q1] at va e0
      cases q2 : oneN b 1 5 with
      | none =>
        rw [q2] at vb e0
        refine xb_ifN (ρ1 := [.val (.tx l), .no, .no, .no]) (xt_cmpv (x_len B 6 m_len (x_var B 2 2) (by first | exact .lst _ | exact .tup _ | exact .str _ (by first | assumption | omega | decide))) xe_int (by first | exact .eqI _ _ | exact .eqS _ _ | exact .eqB _ _)) rfl ?_ ((x_ret xe_non).is (by rw [e0]; rfl))
        refine (x_setE B S 1 1 (ρ1 := [_, _, _, _]) (x_call B c_number_in_marks 4 (xa_cons (x_ix (x_var B 2 2) xe_int (by first | exact .tup _ _ _ rfl | exact .lst _ _ _ rfl)) (xa_cons xe_int (xa_cons xe_int xa_nil))) va) rfl ?_)
        refine (x_setE B S 3 3 (ρ1 := [_, _, _, _]) (x_call B c_number_in_marks 4 (xa_cons (x_ix (x_var B 2 2) xe_int (by first | exact .tup _ _ _ rfl | exact .lst _ _ _ rfl)) (xa_cons xe_int (xa_cons xe_int xa_nil))) vb) rfl ?_)
        exact xb_ifF ((xv_and (xt_cmpv (x_var B 1 1) xe_non (.notN _)) fun hq0 => (xv_and1 (xt_cmpv (x_var B 3 3) xe_non (.notN _))))).t rfl (xb_end (by (repeat' (first | exact WkL.nil | apply WkL.cons)) <;> (first | exact Wk.same _ | exact Wk.no _)))
      | some m =>
        rw [q2] at vb e0
        refine xb_ifT (xt_cmpv (x_len B 6 m_len (x_var B 2 2) (by first | exact .lst _ | exact .tup _ | exact .str _ (by first | assumption | omega | decide))) xe_int (by first | exact .eqI _ _ | exact .eqS _ _ | exact .eqB _ _)) rfl ?_ trivial
        refine (x_setE B S 1 1 (ρ1 := [_, _, _, _]) (x_call B c_number_in_marks 4 (xa_cons (x_ix (x_var B 2 2) xe_int (by first | exact .tup _ _ _ rfl | exact .lst _ _ _ rfl)) (xa_cons xe_int (xa_cons xe_int xa_nil))) va) rfl ?_)
        refine (x_setE B S 3 3 (ρ1 := [_, _, _, _]) (x_call B c_number_in_marks 4 (xa_cons (x_ix (x_var B 2 2) xe_int (by first | exact .tup _ _ _ rfl | exact .lst _ _ _ rfl)) (xa_cons xe_int (xa_cons xe_int xa_nil))) vb) rfl ?_)
        refine xb_ifT ((xv_and (xt_cmpv (x_var B 1 1) xe_non (.notN _)) fun hq0 => (xv_and1 (xt_cmpv (x_var B 3 3) xe_non (.notN _))))).t rfl ((x_ret (x_make B o_Nth.mg_ k_Nth 7 (xa_cons (x_bin (x_var B 1 1) xe_int (.modI _ _ (by decide))) (xa_cons (x_var B 3 3) xa_nil)) rfl)).is ?_) trivial
        rw [e0]
        rfl
  · refine xb_ifF (xt_cmpv (x_len B 6 m_len (x_var B 2 2) (by first | exact .lst _ | exact .tup _ | exact .str _ (by first | assumption | omega | decide))) xe_int (by first | exact .eqI _ _ | exact .eqS _ _ | exact .eqB _ _)) (by simp [txs]; omega) ((x_ret xe_non).is ?_)
    rw [e0]
    match ps, h2 with
    | [], _ => rfl
    | [_], _ => rfl
    | [_, _], h => exact absurd rfl h
    | _ :: _ :: _ :: _, _ => rfl
theorem ok_items_of (T : DefAt K mg "items_of" s_items_of ["text"]) (m_isinstance : mg "isinstance" = none) (m_str : mg "str" = none) (m_len : mg "len" = none) (g_MOST_SIGNS_marks : GlD K mg "MOST_SIGNS_marks" d_MOST_SIGNS_marks) (x_NoField : ExCls K mg "NoField" a_NoField) (i_NoField : ExI P w K mg base "NoField" a_NoField "at") : FnC P w K mg base "items_of" 3 1 (phi_itemsX a_NoField) := by
  refine def_ok T sc_items_of (nk := nk_items_of) rfl (by decide +kernel) rfl fun X W ds B S hl nb => ?_
  clear hl
  rcases inv_itemsX nb with ⟨l, rfl, hl⟩ | ⟨d, rfl, hd⟩
  rotate_left
  · rw [itemsX_odd hd]
    refine ⟨.exc a_NoField ["at"] [.int 0] [.val d], ?_, .exc _ _ _ _⟩
    cases d with
    | v x => cases x with
      | non => exact xb_ifT (XV.t (xv_orT (xt_not (xt_val (x_isi B 1 2 m_isinstance (x_var B 0 0) (x_cls B 2 m_str boot_str) (.ty _) (by first | exact .int _ | exact .bl _ | exact .str _ | exact .tup _ | exact .lst _ | exact .non | exact .dct _ _) kit_is))) (by rfl))) rfl (x_raiseI B S i_NoField 5 xe_int) trivial
      | bl b => exact xb_ifT (XV.t (xv_orT (xt_not (xt_val (x_isi B 1 2 m_isinstance (x_var B 0 0) (x_cls B 2 m_str boot_str) (.ty _) (by first | exact .int _ | exact .bl _ | exact .str _ | exact .tup _ | exact .lst _ | exact .non | exact .dct _ _) kit_is))) (by rfl))) rfl (x_raiseI B S i_NoField 5 xe_int) trivial
      | int i => exact xb_ifT (XV.t (xv_orT (xt_not (xt_val (x_isi B 1 2 m_isinstance (x_var B 0 0) (x_cls B 2 m_str boot_str) (.ty _) (by first | exact .int _ | exact .bl _ | exact .str _ | exact .tup _ | exact .lst _ | exact .non | exact .dct _ _) kit_is))) (by rfl))) rfl (x_raiseI B S i_NoField 5 xe_int) trivial
      | str z => cases hd
      | _ => cases hd
    | lst m => exact xb_ifT (XV.t (xv_orT (xt_not (xt_val (x_isi B 1 2 m_isinstance (x_var B 0 0) (x_cls B 2 m_str boot_str) (.ty _) (by first | exact .int _ | exact .bl _ | exact .str _ | exact .tup _ | exact .lst _ | exact .non | exact .dct _ _) kit_is))) (by rfl))) rfl (x_raiseI B S i_NoField 5 xe_int) trivial
    | tup m => exact xb_ifT (XV.t (xv_orT (xt_not (xt_val (x_isi B 1 2 m_isinstance (x_var B 0 0) (x_cls B 2 m_str boot_str) (.ty _) (by first | exact .int _ | exact .bl _ | exact .str _ | exact .tup _ | exact .lst _ | exact .non | exact .dct _ _) kit_is))) (by rfl))) rfl (x_raiseI B S i_NoField 5 xe_int) trivial
    | dct ks m => exact xb_ifT (XV.t (xv_orT (xt_not (xt_val (x_isi B 1 2 m_isinstance (x_var B 0 0) (x_cls B 2 m_str boot_str) (.ty _) (by first | exact .int _ | exact .bl _ | exact .str _ | exact .tup _ | exact .lst _ | exact .non | exact .dct _ _) kit_is))) (by rfl))) rfl (x_raiseI B S i_NoField 5 xe_int) trivial
    | _ => cases hd
  rw [itemsX_tx hl]
  by_cases h3 : 300 < l.length
  · rw [if_pos h3]
    refine ⟨.exc a_NoField ["at"] [.int 0] [.val (.tx l)], ?_, .exc _ _ _ _⟩
    exact xb_ifT ((xv_or (xt_not (xt_val (x_isi B 1 2 m_isinstance (x_var B 0 0) (x_cls B 2 m_str boot_str) (.ty _) (by first | exact .int _ | exact .bl _ | exact .str _ | exact .tup _ | exact .lst _ | exact .non | exact .dct _ _) kit_is))) fun hq0 => (xv_or1 (xt_cmpv (x_lenT B 3 m_len (x_var B 0 0) (by omega)) (x_gd B 4 g_MOST_SIGNS_marks) (.gt _ _))))).t (by simp; omega) (x_raiseI B S i_NoField 5 xe_int) trivial
  rw [if_neg h3]
  refine ⟨.retO (txs (itemsN l)), ?_, .fr _⟩
  refine xb_ifF ((xv_or (xt_not (xt_val (x_isi B 1 2 m_isinstance (x_var B 0 0) (x_cls B 2 m_str boot_str) (.ty _) (by first | exact .int _ | exact .bl _ | exact .str _ | exact .tup _ | exact .lst _ | exact .non | exact .dct _ _) kit_is))) fun hq0 => (xv_or1 (xt_cmpv (x_lenT B 3 m_len (x_var B 0 0) (by omega)) (x_gd B 4 g_MOST_SIGNS_marks) (.gt _ _))))).t ?bb ?_
  case bb =>
    show (!true || decide (((l.length : Nat) : Int) > 300)) = false
    simp
    omega
  exact x_retO (x_split (x_var B 0 0) (x_lit [44]) (by omega) (by decide))
theorem ok_plain_item (wk : Bool) (l : List Nat) (a : Nat) (T : DefAt K mg "plain_item" s_plain_item ["item", "at", "low", "high"]) (c_read_field : FnC P w K mg base "read_field" 5 3 (phi_readF a_NoField)) (x_NoField : ExCls K mg "NoField" a_NoField) (i_NoField : ExI P w K mg base "NoField" a_NoField "at") (f_nf : PySem.W.subIn K (.ref a_NoField) (.ref a_NoField) = some true) : FnL P w K mg base "plain_item" 6 4 (phi_plainX a_Weekdays a_Numbers a_Last a_Near a_LastWork a_Nth a_LastOne a_Mark a_NoField wk l a) := by
  refine def_okL T sc_plain_item (nk := nk_plain_item) rfl (by decide +kernel) rfl fun X W ds B S L hl nb => ?_
  clear hl
  obtain ⟨rfl, hg⟩ := if_okC nb
  rw [plainX_val hg]
  have hb : loB wk ≤ hiB wk ∧ hiB wk < 64 := bd_le wk
  by_cases q : okP wk l = true
  · rw [if_pos q]
    refine ⟨.ret (.int (fieldN l (loB wk) (hiB wk) : Nat)), ?_, .ret _⟩
    have e := (readF_tx (C := a_NoField) hb (show l.length ≤ 1000 by omega)).trans (okP_val q)
    refine xb_cons (xs_tryOk (o := .nx [.val (.tx l), .val (.int (a : Nat)), .val (.int (loB wk : Nat)), .val (.int (hiB wk : Nat)), .val (.int (fieldN l (loB wk) (hiB wk) : Nat))]) B S x_NoField 6 (fun Y W' B S hY => ?_) trivial) (x_ret (x_var B 4 4))
    exact x_setE B S 4 4 (ρ1 := [_, _, _, _, _]) (x_call B c_read_field 5 (xa_cons (x_var B 0 0) (xa_cons (x_var B 2 2) (xa_cons (x_var B 3 3) xa_nil))) e) rfl xb_nil
  · rw [if_neg q]
    obtain ⟨i, hi⟩ := okP_exc (C := a_NoField) (Bool.eq_false_iff.mpr q)
    have e := (readF_tx (C := a_NoField) hb (show l.length ≤ 1000 by omega)).trans hi
    refine ⟨.exc a_NoField ["at"] [.int (a : Nat)] [.val (.tx l), .val (.int (a : Nat)), .val (.int (loB wk : Nat)), .val (.int (hiB wk : Nat)), .no], ?_, .exc _ _ _ _⟩
    exact xb_stop (xs_tryR (ns := ["at"]) (xs := [.int i]) B S L x_NoField 6 (fun Y W' B S eY => x_setX B S 4 4 (x_callX B S c_read_field 5 (xa_cons (x_var B 0 0) (xa_cons (x_var B 2 2) (xa_cons (x_var B 3 3) xa_nil))) e)) (PySem.W.exm_ref x_NoField.sub x_NoField.hd x_NoField.ty f_nf) (fun Y Hh => x_raiseSI Hh i_NoField 6 (q_var Hh.q 1 1))) trivial
theorem ok_read_items (u : Addr) (wk : Bool) (d : D) (hu : FnA P w K mg base u 3 1 (phi_marked a_Weekdays a_Numbers a_Last a_Near a_LastWork a_Nth a_LastOne a_Mark (mkF wk))) (T : DefAt K mg "read_items" s_read_items ["text", "marked", "low", "high"]) (c_items_of : FnC P w K mg base "items_of" 3 1 (phi_itemsX a_NoField)) (c_plain_item : ∀ (wk : Bool) (l : List Nat) (a : Nat), FnL P w K mg base "plain_item" 6 4 (phi_plainX a_Weekdays a_Numbers a_Last a_Near a_LastWork a_Nth a_LastOne a_Mark a_NoField wk l a)) (o_Mark : ObC K mg "Mark" a_Mark []) (m_range : mg "range" = none) (m_min : mg "min" = none) (m_len : mg "len" = none) (g_MOST_ITEMS_marks : GlD K mg "MOST_ITEMS_marks" d_MOST_ITEMS_marks) (g_MOST_MARKS : GlD K mg "MOST_MARKS" d_MOST_MARKS) (x_NoField : ExCls K mg "NoField" a_NoField) (i_NoField : ExI P w K mg base "NoField" a_NoField "at") : FnL P w K mg base "read_items" 7 4 (phi_readIX a_Weekdays a_Numbers a_Last a_Near a_LastWork a_Nth a_LastOne a_Mark a_NoField u wk d) := by
  refine def_okL T sc_read_items (nk := nk_read_items) rfl (by decide +kernel) rfl fun X W ds B S L hl nb => ?_
  clear hl
  obtain ⟨rfl, hq⟩ := if_okC nb
  rw [readIX_val hq]
  rcases hq with ⟨l, rfl, hl⟩ | hd
  rotate_left
  · replace hd := thing_ok hd
    rw [readQ_odd hd]
    refine ⟨.exc a_NoField ["at"] [.int 0] [.val d, .val (.v (.ref u)), .val (.int (loB wk : Nat)), .val (.int (hiB wk : Nat)), .no, .no, .no, .no, .no], ?_, .exc _ _ _ _⟩
    exact x_setX B S 4 4 (x_callX B S c_items_of 9 (xa_cons (x_var B 0 0) xa_nil) (itemsX_odd hd))
  have ev := itemsX_tx (C := a_NoField) hl
  rw [readQ_tx]
  unfold readX
  by_cases h3 : 300 < l.length
  · rw [if_pos h3] at ev ⊢
    refine ⟨.exc a_NoField ["at"] [.int 0] [.val (.tx l), .val (.v (.ref u)), .val (.int (loB wk : Nat)), .val (.int (hiB wk : Nat)), .no, .no, .no, .no, .no], ?_, .exc _ _ _ _⟩
    exact x_setX B S 4 4 (x_callX B S c_items_of 9 (xa_cons (x_var B 0 0) xa_nil) ev)
  rw [if_neg h3] at ev ⊢
  have hs := (spl_len [44] l 0 []).2
  have ei : TL.spl [44] 0 [] l = itemsN l := rfl
  rw [ei] at hs
  have st : ∀ o, XB X W [.val (.tx l), .val (.v (.ref u)), .val (.int (loB wk : Nat)), .val (.int (hiB wk : Nat)), .val (.lst (txs (itemsN l))), .val (.int ((0 : Nat) : Int)), .own (([] : List Mrk).map (obM a_Weekdays a_Numbers a_Last a_Near a_LastWork a_Nth a_LastOne a_Mark)), .no, .no] ((defBody s_read_items).drop 3) o → XB X W (startE N_read_items [.tx l, .v (.ref u), .int (loB wk : Nat), .int (hiB wk : Nat)]) (defBody s_read_items) o := fun o ho => by
    refine (x_setOE B S 4 4 (ρ1 := [_, _, _, _, _, _, _, _, _]) (x_callO B c_items_of 9 (xa_cons (x_var B 0 0) xa_nil) ev) rfl ?_)
    refine xb_freezeE (ρ1 := [_, _, _, _, _, _, _, _, _]) 4 rfl rfl ?_
    refine (x_setE B S 5 5 (ρ1 := [_, _, _, _, _, _, _, _, _]) xe_int rfl ?_)
    refine (x_setOE B S 6 6 (ρ1 := [_, _, _, _, _, _, _, _, _]) (xo_lst xa_nil) rfl ?_)
    exact ho
  generalize itemsN l = its at *
  have en : (((txs its).length : Nat) : Int) = (its.length : Int) := by rw [txs_len]
  have em : (min (40 : Int) ((txs its).length : Nat)).toNat = min 40 its.length := by
    rw [txs_len]
    omega
  have key : ∃ o, XB X W [.val (.tx l), .val (.v (.ref u)), .val (.int (loB wk : Nat)), .val (.int (hiB wk : Nat)), .val (.lst (txs its)), .val (.int ((0 : Nat) : Int)), .own (([] : List Mrk).map (obM a_Weekdays a_Numbers a_Last a_Near a_LastWork a_Nth a_LastOne a_Mark)), .no, .no] ((defBody s_read_items).drop 3) o ∧ Leads o (Sum.elim (fun y => if 40 < its.length then Ro.exc a_NoField ["at"] [.int 40] else .frP (.val (.int (y.1 : Nat))) (.own (y.2.map (obM a_Weekdays a_Numbers a_Last a_Near a_LastWork a_Nth a_LastOne a_Mark)))) (fun k => Ro.exc a_NoField ["at"] [.int (k : Nat)]) (foldX (scanF wk its) (List.range (min (40 : Int) ((txs its).length : Nat)).toNat) (0, []))) := by
    refine x_forL B S (G := fun k : Nat => D.int (0 + (k : Int))) (fun y : Nat × List Mrk => [.val (.tx l), .val (.v (.ref u)), .val (.int (loB wk : Nat)), .val (.int (hiB wk : Nat)), .val (.lst (txs its)), .val (.int (y.1 : Nat)), .own (y.2.map (obM a_Weekdays a_Numbers a_Last a_Near a_LastWork a_Nth a_LastOne a_Mark)), .no, .no]) (scanF wk its) (fun k => Ro.exc a_NoField ["at"] [.int (k : Nat)]) (fun y r => y.2.length ≤ 20 ∧ ∀ k ∈ r, k < its.length) (as := List.range (min (40 : Int) ((txs its).length : Nat)).toNat) (y := (0, [])) (r := fun y => if 40 < its.length then Ro.exc a_NoField ["at"] [.int 40] else .frP (.val (.int (y.1 : Nat))) (.own (y.2.map (obM a_Weekdays a_Numbers a_Last a_Near a_LastWork a_Nth a_LastOne a_Mark)))) (x_range1 B 10 m_range (x_min2 B 11 m_min (x_gd B 12 g_MOST_ITEMS_marks) (x_lenQ B 13 m_len ((x_var B 4 4)).q)) (by omega)) ⟨Nat.zero_le _, fun k hk => by rw [em] at hk; have := List.mem_range.mp hk; omega⟩ (fun y k r hp => ?_) (fun y hy _ => ?_)
    · have hk := hp.2 k List.mem_cons_self
      refine ⟨[_, _, _, _, _, _, _, _, _], (x_tgt B S.fn 7 7), ?_⟩
      simp only [Int.zero_add]
      have hpm : its.getD k [] ∈ its := by
        rw [List.getD_eq_getElem?_getD, List.getElem?_eq_getElem hk]
        exact List.getElem_mem hk
      have hix := txs_ix hk
      have hpl := hs _ hpm
      unfold scanF
      generalize its.getD k [] = p at *
      simp only [List.length_nil] at hpl
      have v := marked_val (aW := a_Weekdays) (aN := a_Numbers) (aL := a_Last) (aR := a_Near) (aK := a_LastWork) (aT := a_Nth) (aO := a_LastOne) (aM := a_Mark) (f := mkF wk) (l := p) (by omega)
      cases q : mkF wk p with
      | none =>
        rw [q] at v
        have pv := plainX_val (aW := a_Weekdays) (aN := a_Numbers) (aL := a_Last) (aR := a_Near) (aK := a_LastWork) (aT := a_Nth) (aO := a_LastOne) (aM := a_Mark) (C := a_NoField) (wk := wk) (l := p) (a := k) (by omega)
        by_cases q2 : okP wk p = true
        · rw [if_pos q2] at pv
          rw [if_pos q2]
          refine ⟨⟨hp.1, fun x hx => hp.2 x (List.mem_cons_of_mem _ hx)⟩, ?_⟩
          refine (x_setE B S 8 8 (ρ1 := [_, _, _, _, _, _, _, _, _]) (x_callV B hu 1 1 (xa_cons (x_ix (x_var B 4 4) (x_var B 7 7) (.lst _ _ _ hix)) xa_nil) v) rfl ?_)
          exact xb_ifN (ρ1 := [.val (.tx l), .val (.v (.ref u)), .val (.int (loB wk : Nat)), .val (.int (hiB wk : Nat)), .val (.lst (txs its)), .val (.int ((y.1 ||| fieldN p (loB wk) (hiB wk) : Nat) : Int)), .own (y.2.map (obM a_Weekdays a_Numbers a_Last a_Near a_LastWork a_Nth a_LastOne a_Mark)), .no, .no]) (xt_cmpv (x_var B 8 8) xe_non (.isN _)) rfl (x_setE B S 5 5 (ρ1 := [_, _, _, _, _, _, _, _, _]) ((x_bin (x_var B 5 5) (x_call B ((c_plain_item _ _ _)).n 14 (xa_cons (x_ix (x_var B 4 4) (x_var B 7 7) (.lst _ _ _ hix)) (xa_cons (x_var B 7 7) (xa_cons (x_var B 2 2) (xa_cons (x_var B 3 3) xa_nil)))) (noX_of pv)) (.orI _ _)).is (congrArg D.int (or_nat _ _))) rfl (xb_end (by (repeat' (first | exact WkL.nil | apply WkL.cons)) <;> (first | exact Wk.same _ | exact Wk.no _)))) (xb_end (by (repeat' (first | exact WkL.nil | apply WkL.cons)) <;> (first | exact Wk.same _ | exact Wk.no _)))
        · rw [if_neg q2] at pv
          rw [if_neg q2]
          refine ⟨a_NoField, ["at"], [.int (k : Nat)], [.val (.tx l), .val (.v (.ref u)), .val (.int (loB wk : Nat)), .val (.int (hiB wk : Nat)), .val (.lst (txs its)), .val (.int (y.1 : Nat)), .own (y.2.map (obM a_Weekdays a_Numbers a_Last a_Near a_LastWork a_Nth a_LastOne a_Mark)), .val (.int (k : Nat)), .val (.non)], rfl, ?_⟩
          refine (x_setE B S 8 8 (ρ1 := [_, _, _, _, _, _, _, _, _]) (x_callV B hu 1 1 (xa_cons (x_ix (x_var B 4 4) (x_var B 7 7) (.lst _ _ _ hix)) xa_nil) v) rfl ?_)
          exact xb_ifT (xt_cmpv (x_var B 8 8) xe_non (.isN _)) rfl (x_setX B S 5 5 (x_orX (x_var B 5 5) (x_callXL B L.tk (c_plain_item _ _ _) 14 (xa_cons (x_ix (x_var B 4 4) (x_var B 7 7) (.lst _ _ _ hix)) (xa_cons (x_var B 7 7) (xa_cons (x_var B 2 2) (xa_cons (x_var B 3 3) xa_nil)))) pv))) trivial
      | some m =>
        rw [q] at v
        have h20 := hp.1
        have hisd := ob_ref (aW := a_Weekdays) (aN := a_Numbers) (aL := a_Last) (aR := a_Near) (aK := a_LastWork) (aT := a_Nth) (aO := a_LastOne) (aM := a_Mark) (ms := [m]) _ List.mem_cons_self
        by_cases q2 : y.2.length = 20
        · simp only [if_pos q2]
          refine ⟨a_NoField, ["at"], [.int (k : Nat)], [.val (.tx l), .val (.v (.ref u)), .val (.int (loB wk : Nat)), .val (.int (hiB wk : Nat)), .val (.lst (txs its)), .val (.int (y.1 : Nat)), .own (y.2.map (obM a_Weekdays a_Numbers a_Last a_Near a_LastWork a_Nth a_LastOne a_Mark)), .val (.int (k : Nat)), .val ((obM a_Weekdays a_Numbers a_Last a_Near a_LastWork a_Nth a_LastOne a_Mark) m)], rfl, ?_⟩
          refine (x_setE B S 8 8 (ρ1 := [_, _, _, _, _, _, _, _, _]) (x_callV B hu 1 1 (xa_cons (x_ix (x_var B 4 4) (x_var B 7 7) (.lst _ _ _ hix)) xa_nil) v) rfl ?_)
          refine xb_elX (t_isNd (x_var B 8 8) xe_non hisd) rfl ?_ trivial
          exact xb_ifT (xt_cmpv (x_lenQ B 13 m_len (x_ownQ B 6 6)) (x_gd B 15 g_MOST_MARKS) (by first | exact .eqI _ _ | exact .eqS _ _ | exact .eqB _ _)) (by simp [q2]) (x_raiseI B S i_NoField 16 (x_var B 7 7)) trivial
        · simp only [if_neg q2]
          refine ⟨⟨by show (y.2 ++ [m]).length ≤ 20; rw [List.length_append, List.length_singleton]; omega, fun x hx => hp.2 x (List.mem_cons_of_mem _ hx)⟩, ?_⟩
          refine (x_setE B S 8 8 (ρ1 := [_, _, _, _, _, _, _, _, _]) (x_callV B hu 1 1 (xa_cons (x_ix (x_var B 4 4) (x_var B 7 7) (.lst _ _ _ hix)) xa_nil) v) rfl ?_)
          refine xb_elN (ρ1 := [.val (.tx l), .val (.v (.ref u)), .val (.int (loB wk : Nat)), .val (.int (hiB wk : Nat)), .val (.lst (txs its)), .val (.int (y.1 : Nat)), .own ((y.2 ++ [m]).map (obM a_Weekdays a_Numbers a_Last a_Near a_LastWork a_Nth a_LastOne a_Mark)), .no, .no]) (t_isNd (x_var B 8 8) xe_non hisd) rfl ?_ (xb_end (by (repeat' (first | exact WkL.nil | apply WkL.cons)) <;> (first | exact Wk.same _ | exact Wk.no _)))
          refine xb_elN (ρ1 := [.val (.tx l), .val (.v (.ref u)), .val (.int (loB wk : Nat)), .val (.int (hiB wk : Nat)), .val (.lst (txs its)), .val (.int (y.1 : Nat)), .own ((y.2 ++ [m]).map (obM a_Weekdays a_Numbers a_Last a_Near a_LastWork a_Nth a_LastOne a_Mark)), .no, .no]) (xt_cmpv (x_lenQ B 13 m_len (x_ownQ B 6 6)) (x_gd B 15 g_MOST_MARKS) (by first | exact .eqI _ _ | exact .eqS _ _ | exact .eqB _ _)) (by simp; omega) ?_ xb_nil
          rw [List.map_append, List.map_singleton]
          exact x_puE B 6 6 (ρ1 := [_, _, _, _, _, _, _, _, _]) rfl (x_var B 8 8) (by simp; omega) rfl (xb_end (by (repeat' (first | exact WkL.nil | apply WkL.cons)) <;> (first | exact Wk.same _ | exact Wk.no _)))
    · by_cases h4 : 40 < its.length
      · simp only [if_pos h4]
        exact ⟨.exc a_NoField ["at"] [.int 40] [.val (.tx l), .val (.v (.ref u)), .val (.int (loB wk : Nat)), .val (.int (hiB wk : Nat)), .val (.lst (txs its)), .val (.int (y.1 : Nat)), .own (y.2.map (obM a_Weekdays a_Numbers a_Last a_Near a_LastWork a_Nth a_LastOne a_Mark)), .no, .no], xb_ifT (B := decide ((((txs its).length : Nat) : Int) > 40)) (xt_cmpv (x_lenQ B 13 m_len ((x_var B 4 4)).q) (x_gd B 12 g_MOST_ITEMS_marks) (.gt _ _)) (by rw [en]; simp; omega) (x_raiseI B S i_NoField 16 (x_gd B 12 g_MOST_ITEMS_marks)) trivial, .exc _ _ _ _⟩
      · simp only [if_neg h4]
        refine ⟨.retP (.val (.int (y.1 : Nat))) (.own (y.2.map (obM a_Weekdays a_Numbers a_Last a_Near a_LastWork a_Nth a_LastOne a_Mark))), xb_ifF (B := decide ((((txs its).length : Nat) : Int) > 40)) (xt_cmpv (x_lenQ B 13 m_len ((x_var B 4 4)).q) (x_gd B 12 g_MOST_ITEMS_marks) (.gt _ _)) (by rw [en]; simp; omega) ?_, .frP _ _⟩
        exact (x_retVN B 6 6 (x_var B 5 5))
  obtain ⟨o, h1, h2⟩ := key
  refine ⟨o, st o h1, ?_⟩
  rw [em] at h2
  unfold scanX
  revert h2
  cases foldX (scanF wk its) (List.range (min 40 its.length)) (0, []) with
  | inl y =>
    simp only [Sum.elim_inl]
    split <;> exact id
  | inr k => exact id
theorem ok_read_days (d : D) (T : DefAt K mg "read_days" s_read_days ["text"]) (c_read_items : ∀ (u : Addr) (wk : Bool) (d : D) (hu : FnA P w K mg base u 3 1 (phi_marked a_Weekdays a_Numbers a_Last a_Near a_LastWork a_Nth a_LastOne a_Mark (mkF wk))), FnL P w K mg base "read_items" 7 4 (phi_readIX a_Weekdays a_Numbers a_Last a_Near a_LastWork a_Nth a_LastOne a_Mark a_NoField u wk d)) (c_day_mark : FnC P w K mg base "day_mark" 3 1 (phi_marked a_Weekdays a_Numbers a_Last a_Near a_LastWork a_Nth a_LastOne a_Mark (mkF false))) (o_Numbers : ObC K mg "Numbers" a_Numbers ["mask"]) (k_Numbers : MkC P w K mg base a_Numbers 1 1 [] phi_Numbers_init) : FnL P w K mg base "read_days" 8 1 (phi_read_days a_Weekdays a_Numbers a_Last a_Near a_LastWork a_Nth a_LastOne a_Mark a_NoField d) := by
  refine def_okL T sc_read_days (nk := nk_read_days) rfl (by decide +kernel) rfl fun X W ds B S L hl nb => ?_
  clear hl
  obtain ⟨rfl, hq⟩ := if_okC nb
  rw [daysX_val hq]
  obtain ⟨u, mu, hu⟩ := c_day_mark.addr
  have iv := readIX_val (aW := a_Weekdays) (aN := a_Numbers) (aL := a_Last) (aR := a_Near) (aK := a_LastWork) (aT := a_Nth) (aO := a_LastOne) (aM := a_Mark) (C := a_NoField) (u := u) (wk := false) hq
  have val : ∀ y : Nat × List Mrk, d ≠ .tx [42] → readQ false d = .inl y → ∃ o, XB X W (startE N_read_days [d]) ((defBody s_read_days).drop 1) o ∧ Leads o (.fr ((dayL false y).map (obM a_Weekdays a_Numbers a_Last a_Near a_LastWork a_Nth a_LastOne a_Mark))) := fun y _ e => by
    rw [e] at iv
    refine ⟨.retO ((dayL false y).map (obM a_Weekdays a_Numbers a_Last a_Near a_LastWork a_Nth a_LastOne a_Mark)), ?_, .fr _⟩
    have hlen : y.2.length ≤ 40 := by
      rcases hq with ⟨l, rfl, hl⟩ | hd
      · rw [readQ_tx] at e
        exact readX_len e
      · rw [readQ_odd (thing_ok hd)] at e
        cases e
    refine (x_asgP B S 1 2 1 2 (ρ1 := [_, _, _]) (x_callP B ((c_read_items _ _ _ hu)).n 3 (xa_cons (x_var B 0 0) (xa_cons (x_fnv B 4 mu) (xa_cons xe_int (xa_cons xe_int xa_nil)))) (noX_of iv)) rfl ?_)
    rw [show dayL false y = (if  y.1 = 0 then y.2 else .num ( y.1) :: y.2) from rfl]
    by_cases q :  y.1 = 0
    · rw [if_pos q]
      exact xb_ifT (xt_cmpv (x_var B 1 1) xe_int (by first | exact .eqI _ _ | exact .eqS _ _ | exact .eqB _ _)) (decide_eq_true (by omega)) (x_retOwn B 2 2) trivial
    · rw [if_neg q]
      refine xb_ifF (xt_cmpv (x_var B 1 1) xe_int (by first | exact .eqI _ _ | exact .eqS _ _ | exact .eqB _ _)) (decide_eq_false (by omega)) ?_
      exact (x_retO (x_catO ((xo_lst (xa_cons (x_make B o_Numbers.mg_ k_Numbers 5 (xa_cons (x_var B 1 1) xa_nil) rfl) xa_nil))).q (x_ownQ B 2 2) (by simp; omega))).is rfl
  have bad : ∀ k : Nat, readQ false d = .inr k → ∃ o, XB X W (startE N_read_days [d]) ((defBody s_read_days).drop 1) o ∧ Leads o (Ro.exc a_NoField ["at"] [.int (k : Nat)]) := fun k e => by
    rw [e] at iv
    exact ⟨.exc a_NoField ["at"] [.int (k : Nat)] [.val d, .no, .no], x_asgXX (x_callXL B L.tk (c_read_items _ _ _ hu) 3 (xa_cons (x_var B 0 0) (xa_cons (x_fnv B 4 mu) (xa_cons xe_int (xa_cons xe_int xa_nil)))) iv), .exc _ _ _ _⟩
  have key : ∀ c : d ≠ .tx [42], ∃ o, XB X W (startE N_read_days [d]) ((defBody s_read_days).drop 1) o ∧ Leads o (readRo a_NoField (fun y => .fr ((dayL false y).map (obM a_Weekdays a_Numbers a_Last a_Near a_LastWork a_Nth a_LastOne a_Mark))) (readQ false d)) := fun c => by
    cases e : readQ false d with
    | inl y => exact val y c e
    | inr k => exact bad k e
  rcases hq with ⟨l, rfl, hl⟩ | hd
  · by_cases h1 : l = [42]
    · rw [if_pos (by rw [h1])]
      exact ⟨.ret .non, xb_ifT (t_eqT (x_var B 0 0) (x_lit [42])) (decide_eq_true h1) (x_ret xe_non) trivial, .ret _⟩
    · have c : D.tx l ≠ .tx [42] := fun q => h1 (tx_eq.mp (by simpa only [D.tx, D.v.injEq, V.str.injEq] using q))
      rw [if_neg c]
      obtain ⟨o, h2, h3⟩ := key c
      exact ⟨o, xb_ifF (t_eqT (x_var B 0 0) (x_lit [42])) (decide_eq_false h1) h2, h3⟩
  · have c : d ≠ .tx [42] := notTx_ne (thing_ok hd)
    rw [if_neg c]
    obtain ⟨o, h2, h3⟩ := key c
    refine ⟨o, ?_, h3⟩
    clear key val bad iv
    simp only [thingL, List.mem_cons, List.not_mem_nil, or_false] at hd
    rcases hd with rfl | rfl | rfl | rfl | rfl | rfl
    · exact xb_ifF (t_eqV (x_var B 0 0) (x_lit [42]) rfl) (by decide) h2
    · exact xb_ifF (t_eqV (x_var B 0 0) (x_lit [42]) rfl) (by decide) h2
    · exact xb_ifF (t_eqV (x_var B 0 0) (x_lit [42]) rfl) (by decide) h2
    · exact xb_ifF (t_eqD B ((x_var B 0 0)).w ((x_lit [42])).w eqd_l) rfl h2
    · exact xb_ifF (t_eqD B ((x_var B 0 0)).w ((x_lit [42])).w eqd_t) rfl h2
    · exact xb_ifF (t_eqDS B (x_var B 0 0) (x_lit [42])) rfl h2
theorem ok_read_weekdays (d : D) (T : DefAt K mg "read_weekdays" s_read_weekdays ["text"]) (c_read_items : ∀ (u : Addr) (wk : Bool) (d : D) (hu : FnA P w K mg base u 3 1 (phi_marked a_Weekdays a_Numbers a_Last a_Near a_LastWork a_Nth a_LastOne a_Mark (mkF wk))), FnL P w K mg base "read_items" 7 4 (phi_readIX a_Weekdays a_Numbers a_Last a_Near a_LastWork a_Nth a_LastOne a_Mark a_NoField u wk d)) (c_weekday_mark : FnC P w K mg base "weekday_mark" 3 1 (phi_marked a_Weekdays a_Numbers a_Last a_Near a_LastWork a_Nth a_LastOne a_Mark (mkF true))) (o_Weekdays : ObC K mg "Weekdays" a_Weekdays ["mask"]) (k_Weekdays : MkC P w K mg base a_Weekdays 1 1 [] phi_Weekdays_init) : FnL P w K mg base "read_weekdays" 8 1 (phi_read_weekdays a_Weekdays a_Numbers a_Last a_Near a_LastWork a_Nth a_LastOne a_Mark a_NoField d) := by
  refine def_okL T sc_read_weekdays (nk := nk_read_weekdays) rfl (by decide +kernel) rfl fun X W ds B S L hl nb => ?_
  clear hl
  obtain ⟨rfl, hq⟩ := if_okC nb
  rw [weekdaysX_val hq]
  obtain ⟨u, mu, hu⟩ := c_weekday_mark.addr
  have iv := readIX_val (aW := a_Weekdays) (aN := a_Numbers) (aL := a_Last) (aR := a_Near) (aK := a_LastWork) (aT := a_Nth) (aO := a_LastOne) (aM := a_Mark) (C := a_NoField) (u := u) (wk := true) hq
  have val : ∀ y : Nat × List Mrk, d ≠ .tx [42] → readQ true d = .inl y → ∃ o, XB X W (startE N_read_weekdays [d]) ((defBody s_read_weekdays).drop 1) o ∧ Leads o (.fr ((dayL true y).map (obM a_Weekdays a_Numbers a_Last a_Near a_LastWork a_Nth a_LastOne a_Mark))) := fun y _ e => by
    rw [e] at iv
    refine ⟨.retO ((dayL true y).map (obM a_Weekdays a_Numbers a_Last a_Near a_LastWork a_Nth a_LastOne a_Mark)), ?_, .fr _⟩
    have hlen : y.2.length ≤ 40 := by
      rcases hq with ⟨l, rfl, hl⟩ | hd
      · rw [readQ_tx] at e
        exact readX_len e
      · rw [readQ_odd (thing_ok hd)] at e
        cases e
    refine (x_asgP B S 1 2 1 2 (ρ1 := [_, _, _]) (x_callP B ((c_read_items _ _ _ hu)).n 3 (xa_cons (x_var B 0 0) (xa_cons (x_fnv B 4 mu) (xa_cons xe_int (xa_cons xe_int xa_nil)))) (noX_of iv)) rfl ?_)
    rw [show dayL true y = (if wkMask y.1 = 0 then y.2 else .wks (wkMask y.1) :: y.2) from rfl]
    refine (x_setE B S 1 1 (ρ1 := [_, _, _]) ((x_bin (x_bin (x_var B 1 1) xe_int (.andI _ _)) (x_bin (x_var B 1 1) xe_int (.shrI _ _ (by omega))) (.orI _ _)).is (congrArg D.int (wk_nat y.1))) rfl ?_)
    by_cases q : wkMask y.1 = 0
    · rw [if_pos q]
      exact xb_ifT (xt_cmpv (x_var B 1 1) xe_int (by first | exact .eqI _ _ | exact .eqS _ _ | exact .eqB _ _)) (decide_eq_true (by omega)) (x_retOwn B 2 2) trivial
    · rw [if_neg q]
      refine xb_ifF (xt_cmpv (x_var B 1 1) xe_int (by first | exact .eqI _ _ | exact .eqS _ _ | exact .eqB _ _)) (decide_eq_false (by omega)) ?_
      exact (x_retO (x_catO ((xo_lst (xa_cons (x_make B o_Weekdays.mg_ k_Weekdays 5 (xa_cons (x_var B 1 1) xa_nil) rfl) xa_nil))).q (x_ownQ B 2 2) (by simp; omega))).is rfl
  have bad : ∀ k : Nat, readQ true d = .inr k → ∃ o, XB X W (startE N_read_weekdays [d]) ((defBody s_read_weekdays).drop 1) o ∧ Leads o (Ro.exc a_NoField ["at"] [.int (k : Nat)]) := fun k e => by
    rw [e] at iv
    exact ⟨.exc a_NoField ["at"] [.int (k : Nat)] [.val d, .no, .no], x_asgXX (x_callXL B L.tk (c_read_items _ _ _ hu) 3 (xa_cons (x_var B 0 0) (xa_cons (x_fnv B 4 mu) (xa_cons xe_int (xa_cons xe_int xa_nil)))) iv), .exc _ _ _ _⟩
  have key : ∀ c : d ≠ .tx [42], ∃ o, XB X W (startE N_read_weekdays [d]) ((defBody s_read_weekdays).drop 1) o ∧ Leads o (readRo a_NoField (fun y => .fr ((dayL true y).map (obM a_Weekdays a_Numbers a_Last a_Near a_LastWork a_Nth a_LastOne a_Mark))) (readQ true d)) := fun c => by
    cases e : readQ true d with
    | inl y => exact val y c e
    | inr k => exact bad k e
  rcases hq with ⟨l, rfl, hl⟩ | hd
  · by_cases h1 : l = [42]
    · rw [if_pos (by rw [h1])]
      exact ⟨.ret .non, xb_ifT (t_eqT (x_var B 0 0) (x_lit [42])) (decide_eq_true h1) (x_ret xe_non) trivial, .ret _⟩
    · have c : D.tx l ≠ .tx [42] := fun q => h1 (tx_eq.mp (by simpa only [D.tx, D.v.injEq, V.str.injEq] using q))
      rw [if_neg c]
      obtain ⟨o, h2, h3⟩ := key c
      exact ⟨o, xb_ifF (t_eqT (x_var B 0 0) (x_lit [42])) (decide_eq_false h1) h2, h3⟩
  · have c : d ≠ .tx [42] := notTx_ne (thing_ok hd)
    rw [if_neg c]
    obtain ⟨o, h2, h3⟩ := key c
    refine ⟨o, ?_, h3⟩
    clear key val bad iv
    simp only [thingL, List.mem_cons, List.not_mem_nil, or_false] at hd
    rcases hd with rfl | rfl | rfl | rfl | rfl | rfl
    · exact xb_ifF (t_eqV (x_var B 0 0) (x_lit [42]) rfl) (by decide) h2
    · exact xb_ifF (t_eqV (x_var B 0 0) (x_lit [42]) rfl) (by decide) h2
    · exact xb_ifF (t_eqV (x_var B 0 0) (x_lit [42]) rfl) (by decide) h2
    · exact xb_ifF (t_eqD B ((x_var B 0 0)).w ((x_lit [42])).w eqd_l) rfl h2
    · exact xb_ifF (t_eqD B ((x_var B 0 0)).w ((x_lit [42])).w eqd_t) rfl h2
    · exact xb_ifF (t_eqDS B (x_var B 0 0) (x_lit [42])) rfl h2
theorem ok_law_cell_at (T : DefAt K mg "_law_cell_at" s_law_cell_at ["_law_script", "_law_k"]) (m_len : mg "len" = none) : FnC P w K mg base "_law_cell_at" 1 2 phi_law_cell_at := by
  refine def_ok T sc_law_cell_at (nk := nk_law_cell_at) rfl (by decide +kernel) rfl fun X W ds B S hl nb => ?_
  obtain ⟨l, k, rfl, hb⟩ := inv_LI nb
  have hk := if_ok hb
  refine ⟨.ret (l.getD k.toNat (.int ((k + 2) ^ Int.toNat 5 * 1299709 % 15485863))), ?_, by
    show Leads _ (if 0 ≤ k ∧ k ≤ 1000000 then Ro.val _ else .bad)
    rw [if_pos hk]
    exact .ret _⟩
  refine xb_if (xt_cmpv (x_var B 1 1) (x_len B 2 m_len (x_var B 0 0) (by first | exact .lst _ | exact .tup _ | exact .str _ (by first | assumption | omega | decide))) (.lt _ _)) (fun h => ⟨x_ret (x_ix (x_var B 0 0) (x_var B 1 1) (.lst _ _ _ ?ix)), trivial⟩) fun h => (x_ret (x_bin (x_bin (x_bin (x_bin (x_var B 1 1) xe_int (by first | exact .addI _ _ | exact .catS _ _ (by first | assumption | omega | decide))) xe_int (.powI _ _ ⟨by decide, by decide, by omega⟩)) xe_int (.mulI _ _ (.inr ⟨by decide, by decide⟩))) xe_int (.modI _ _ (by decide)))).is ?_
  case ix =>
    simp only [decide_eq_true_eq] at h
    have hlt : k.toNat < l.length := by omega
    exact ix_nat hk.1 (by rw [List.getD_eq_getElem?_getD, List.getElem?_eq_getElem hlt]; rfl)
  simp only [decide_eq_false_iff_not] at h
  have hlt : l.length ≤ k.toNat := by omega
  simp [hlt]
theorem ok_law_stir (T : DefAt K mg "_law_stir" s_law_stir ["_law_number"]) : FnC P w K mg base "_law_stir" 1 1 phi_law_stir := by
  refine def_ok T sc_law_stir (nk := nk_law_stir) rfl (by decide +kernel) rfl fun X W ds B S hl nb => ?_
  obtain ⟨c, rfl, hb⟩ := inv_I nb
  refine ⟨.ret (.int (stir c)), ?_, .ret _⟩
  have h1 : 0 ≤ stir1 c ∧ stir1 c < 4294967291 := ⟨Int.emod_nonneg _ (by decide), Int.emod_lt_of_pos _ (by decide)⟩
  have h2 : 0 ≤ stir2 c ∧ stir2 c < 999999937 := ⟨Int.emod_nonneg _ (by decide), Int.emod_lt_of_pos _ (by decide)⟩
  refine (x_setE B S 1 1 (d := .int (stir1 c)) (ρ1 := [_, _, _]) (x_bin (x_bin (x_bin (x_bin (x_var B 0 0) (x_bin xe_int xe_int (.powI _ _ ⟨by decide, by decide, by decide⟩)) (.modI _ _ (by decide))) xe_int (by first | exact .addI _ _ | exact .catS _ _ (by first | assumption | omega | decide))) xe_int (.mulI _ _ (.inr ⟨by decide, by decide⟩))) xe_int (.modI _ _ (by decide))) rfl ?_)
  refine (x_setE B S 2 2 (d := .int (stir2 c)) (ρ1 := [_, _, _]) (x_bin (x_bin (x_var B 1 1) (x_bin (x_bin (x_var B 1 1) xe_int (.modI _ _ (by decide))) xe_int (by first | exact .addI _ _ | exact .catS _ _ (by first | assumption | omega | decide))) (.mulI _ _ (.inl (by omega)))) xe_int (.modI _ _ (by decide))) rfl ?_)
  exact x_ret (x_bin (x_bin (x_var B 2 2) (x_bin (x_bin (x_var B 2 2) xe_int (.modI _ _ (by decide))) xe_int (by first | exact .addI _ _ | exact .catS _ _ (by first | assumption | omega | decide))) (.mulI _ _ (.inl (by omega)))) xe_int (.modI _ _ (by decide)))
theorem ok_law_digits (T : DefAt K mg "_law_digits" s_law_digits ["_law_cell", "_law_sizes", "_law_mixed"]) (c_law_stir : FnC P w K mg base "_law_stir" 1 1 phi_law_stir) (m_abs : mg "abs" = none) : FnC P w K mg base "_law_digits" 2 3 phi_law_digits := by
  refine def_ok T sc_law_digits (nk := nk_law_digits) rfl (by decide +kernel) rfl fun X W ds B S hl nb => ?_
  obtain ⟨c, ss, m, rfl, hs, hl'⟩ := dig_inv nb
  refine ⟨.retO ((digV m c ss).map D.int), ?_, by
    rw [dig_val hs hl']
    exact .fr _⟩
  refine (x_setOE B S 3 3 (ρ1 := [_, _, _, _, _]) (xo_lst xa_nil) rfl ?_)
  refine (x_setE B S 2 2 (d := .bl (m || small c)) (ρ1 := [_, _, _, _, _]) (xe_orV (x_var B 2 2) fun hq0 => (xe_one (xe_cmp (x_abs B 5 m_abs (x_var B 0 0)) (x_bin xe_int xe_int (.powI _ _ ⟨by decide, by decide, by decide⟩)) (.lt _ _)))) rfl ?_)
  refine x_for B S (xi_list (x_var B 1 1)) (fo_fold (fun y : Int × List D => [.val (.int y.1), .val (.lst (ss.map D.int)), .val (.bl (m || small c)), .own y.2, .no]) (digF (m || small c)) (y := (c, [])) (fun y r => (∃ t : List Int, r = t.map D.int ∧ ∀ s ∈ t, 0 < s ∧ s < 1073741824) ∧ y.2.length + r.length ≤ 1000) ⟨⟨ss, rfl, hs⟩, by simpa using hl'⟩ fun y d r hp => ?_) ?_
  · obtain ⟨⟨t, ht, h2⟩, h3⟩ := hp
    cases t with
    | nil => cases ht
    | cons s t =>
      cases ht
      have h4 := h2 s List.mem_cons_self
      simp only [List.length_cons, List.length_map] at h3
      refine ⟨⟨⟨t, rfl, fun x hx => h2 x (List.mem_cons_of_mem _ hx)⟩, ?_⟩, [_, _, _, _, _], (x_tgt B S.fn 4 4), ?_⟩
      · unfold digF
        split <;> simp <;> omega
      generalize hq : (m || small c) = q
      refine xb_ifm (xt_val (x_var B 2 2)) (fun h => ?_) (fun h => ?_) xb_nil
      · subst h
        exact (x_setE B S 0 0 (ρ1 := [_, _, _, _, _]) (x_call B c_law_stir 6 (xa_cons (x_var B 0 0) xa_nil) rfl) rfl (x_puE B 3 3 (ρ1 := [_, _, _, _, _]) rfl (x_bin (x_bin (x_var B 0 0) xe_int (.divI _ _ ⟨by decide, by decide⟩)) (x_var B 4 4) (.modI _ _ (by show 0 < s; omega))) (by omega) rfl (xb_end (by (repeat' (first | exact WkL.nil | apply WkL.cons)) <;> (first | exact Wk.same _ | exact Wk.no _)))))
      · subst h
        exact (x_puE B 3 3 (ρ1 := [_, _, _, _, _]) rfl (x_bin (x_var B 0 0) (x_var B 4 4) (.modI _ _ (by show 0 < s; omega))) (by omega) rfl (x_setE B S 0 0 (ρ1 := [_, _, _, _, _]) (x_bin (x_var B 0 0) (x_var B 4 4) (.divI _ _ (by show 0 < s ∧ s < 1073741824; omega))) rfl (xb_end (by (repeat' (first | exact WkL.nil | apply WkL.cons)) <;> (first | exact Wk.same _ | exact Wk.no _)))))
  rw [show (digV m c ss).map D.int = ((ss.map D.int).foldl (digF (m || small c)) (c, [])).2 by rw [digF_fold]; rfl]
  exact x_retOwn B 3 3
theorem ok_law_whole (T : DefAt K mg "_law_whole" s_law_whole ["_law_found"]) (m_isinstance : mg "isinstance" = none) (m_int : mg "int" = none) (m_bool : mg "bool" = none) : FnC P w K mg base "_law_whole" 1 1 phi_law_whole := by
  refine def_ok T sc_law_whole (nk := nk_law_whole) rfl (by decide +kernel) rfl fun X W ds B S hl nb => ?_
  obtain ⟨d, rfl, hb⟩ := inv_V nb
  split at hb
  · exact ⟨_, x_ret (xe_andV (x_isi B 1 2 m_isinstance (x_var B 0 0) (x_cls B 2 m_int boot_int) (.ty _) (by first | exact .int _ | exact .bl _ | exact .str _ | exact .tup _ | exact .lst _ | exact .non | exact .dct _ _) kit_is) fun hq0 => (xe_one (xe_notV (x_isi B 1 3 m_isinstance (x_var B 0 0) (x_cls B 3 m_bool boot_bool) (.ty _) (by first | exact .int _ | exact .bl _ | exact .str _ | exact .tup _ | exact .lst _ | exact .non | exact .dct _ _) kit_is)))), .ret _⟩
  · exact ⟨_, x_ret (xe_andV (x_isi B 1 2 m_isinstance (x_var B 0 0) (x_cls B 2 m_int boot_int) (.ty _) (by first | exact .int _ | exact .bl _ | exact .str _ | exact .tup _ | exact .lst _ | exact .non | exact .dct _ _) kit_is) fun hq0 => (xe_one (xe_notV (x_isi B 1 3 m_isinstance (x_var B 0 0) (x_cls B 3 m_bool boot_bool) (.ty _) (by first | exact .int _ | exact .bl _ | exact .str _ | exact .tup _ | exact .lst _ | exact .non | exact .dct _ _) kit_is)))), .ret _⟩
  · exact ⟨_, x_ret (xe_andV (x_isi B 1 2 m_isinstance (x_var B 0 0) (x_cls B 2 m_int boot_int) (.ty _) (by first | exact .int _ | exact .bl _ | exact .str _ | exact .tup _ | exact .lst _ | exact .non | exact .dct _ _) kit_is) fun hq0 => (xe_one (xe_notV (x_isi B 1 3 m_isinstance (x_var B 0 0) (x_cls B 3 m_bool boot_bool) (.ty _) (by first | exact .int _ | exact .bl _ | exact .str _ | exact .tup _ | exact .lst _ | exact .non | exact .dct _ _) kit_is)))), .ret _⟩
  · exact ⟨_, x_ret (xe_andV (x_isi B 1 2 m_isinstance (x_var B 0 0) (x_cls B 2 m_int boot_int) (.ty _) (by first | exact .int _ | exact .bl _ | exact .str _ | exact .tup _ | exact .lst _ | exact .non | exact .dct _ _) kit_is) fun hq0 => (xe_one (xe_notV (x_isi B 1 3 m_isinstance (x_var B 0 0) (x_cls B 3 m_bool boot_bool) (.ty _) (by first | exact .int _ | exact .bl _ | exact .str _ | exact .tup _ | exact .lst _ | exact .non | exact .dct _ _) kit_is)))), .ret _⟩
  · exact ⟨_, x_ret (xe_andV (x_isi B 1 2 m_isinstance (x_var B 0 0) (x_cls B 2 m_int boot_int) (.ty _) (by first | exact .int _ | exact .bl _ | exact .str _ | exact .tup _ | exact .lst _ | exact .non | exact .dct _ _) kit_is) fun hq0 => (xe_one (xe_notV (x_isi B 1 3 m_isinstance (x_var B 0 0) (x_cls B 3 m_bool boot_bool) (.ty _) (by first | exact .int _ | exact .bl _ | exact .str _ | exact .tup _ | exact .lst _ | exact .non | exact .dct _ _) kit_is)))), .ret _⟩
  · exact ⟨_, x_ret (xe_andV (x_isi B 1 2 m_isinstance (x_var B 0 0) (x_cls B 2 m_int boot_int) (.ty _) (by first | exact .int _ | exact .bl _ | exact .str _ | exact .tup _ | exact .lst _ | exact .non | exact .dct _ _) kit_is) fun hq0 => (xe_one (xe_notV (x_isi B 1 3 m_isinstance (x_var B 0 0) (x_cls B 3 m_bool boot_bool) (.ty _) (by first | exact .int _ | exact .bl _ | exact .str _ | exact .tup _ | exact .lst _ | exact .non | exact .dct _ _) kit_is)))), .ret _⟩
  · exact absurd rfl hb
theorem ok_law_right (T : DefAt K mg "_law_right" s_law_right ["_law_turn", "_law_week", "_law_mark"]) : FnC P w K mg base "_law_right" 1 3 phi_law_right := by
  refine def_ok T sc_law_right (nk := nk_law_right) rfl (by decide +kernel) rfl fun X W ds B S hl nb => ?_
  clear hl
  obtain ⟨t, wk, g, rfl⟩ : ∃ (t : Nat) (wk g : Bool), ds = [.int (t : Nat), .bl wk, .bl g] := by
    unfold phi_law_right at nb
    split at nb
    · rename_i t wk g
      have h := if_ok nb
      exact ⟨t.toNat, wk, g, by rw [Int.toNat_of_nonneg h]⟩
    · exact absurd rfl nb
  refine ⟨.ret (.tx (rightT wk g t)), ?_, by
    rw [lright_val]
    exact .ret _⟩
  have hx := right_ix wk g t
  cases wk <;> cases g
  · exact xb_ifF ((xv_and (xt_val (x_var B 2 2)) fun hq0 => (xv_and1 (xt_val (x_var B 1 1))))).t rfl (xb_ifF (xt_val (x_var B 2 2)) rfl (xb_ifF (xt_val (x_var B 1 1)) rfl (x_ret (x_ix (xo_lst (xa_cons (x_lit [49]) (xa_cons (x_lit [51, 49]) (xa_cons (x_lit [50, 45, 57]) (xa_cons (x_lit [42, 47, 57]) (xa_cons (x_lit [49, 47, 50]) (xa_cons (x_lit [42]) (xa_cons (x_lit [51, 48, 45, 51, 49]) xa_nil)))))))).dat (x_bin (x_var B 0 0) xe_int (.modI _ _ (by decide))) (.lst _ _ _ hx)))))
  · exact xb_ifF ((xv_and (xt_val (x_var B 2 2)) fun hq0 => (xv_and1 (xt_val (x_var B 1 1))))).t rfl (xb_ifT (xt_val (x_var B 2 2)) rfl (x_ret (x_ix (xo_lst (xa_cons (x_lit [76]) (xa_cons (x_lit [76, 87]) (xa_cons (x_lit [76, 45, 51, 48]) (xa_cons (x_lit [51, 49, 87]) (xa_cons (x_lit [49, 87]) (xa_cons (x_lit [76, 45, 49]) xa_nil))))))).dat (x_bin (x_var B 0 0) xe_int (.modI _ _ (by decide))) (.lst _ _ _ hx))) trivial)
  · exact xb_ifF ((xv_and (xt_val (x_var B 2 2)) fun hq0 => (xv_and1 (xt_val (x_var B 1 1))))).t rfl (xb_ifF (xt_val (x_var B 2 2)) rfl (xb_ifT (xt_val (x_var B 1 1)) rfl (x_ret (x_ix (xo_lst (xa_cons (x_lit [48]) (xa_cons (x_lit [55]) (xa_cons (x_lit [49, 45, 53]) (xa_cons (x_lit [42, 47, 50]) (xa_cons (x_lit [53, 47, 50]) (xa_cons (x_lit [42]) (xa_cons (x_lit [48, 45, 55]) xa_nil)))))))).dat (x_bin (x_var B 0 0) xe_int (.modI _ _ (by decide))) (.lst _ _ _ hx))) trivial))
  · exact xb_ifT ((xv_and (xt_val (x_var B 2 2)) fun hq0 => (xv_and1 (xt_val (x_var B 1 1))))).t rfl (x_ret (x_ix (xo_lst (xa_cons (x_lit [53, 76]) (xa_cons (x_lit [48, 35, 49]) (xa_cons (x_lit [55, 76]) (xa_cons (x_lit [55, 35, 53]) (xa_cons (x_lit [54, 76]) (xa_cons (x_lit [51, 35, 51]) xa_nil))))))).dat (x_bin (x_var B 0 0) xe_int (.modI _ _ (by decide))) (.lst _ _ _ hx))) trivial
theorem ok_law_wrong (T : DefAt K mg "_law_wrong" s_law_wrong ["_law_turn", "_law_week"]) : FnC P w K mg base "_law_wrong" 1 2 phi_law_wrong := by
  refine def_ok T sc_law_wrong (nk := nk_law_wrong) rfl (by decide +kernel) rfl fun X W ds B S hl nb => ?_
  clear hl
  obtain ⟨t, wk, rfl, ht⟩ : ∃ (t : Nat) (wk : Bool), ds = [.int (t : Nat), .bl wk] ∧ t < 45 := by
    unfold phi_law_wrong at nb
    split at nb
    · rename_i t wk
      have h := if_ok nb
      exact ⟨t.toNat, wk, by rw [Int.toNat_of_nonneg h.1], by omega⟩
    · exact absurd rfl nb
  refine ⟨.ret (.tx (wrongI wk t)), ?_, by
    rw [lwrong_val ht]
    exact .ret _⟩
  refine (x_setOE B S 2 2 (ρ1 := [_, _, _, _]) (xo_lst (xa_cons (x_lit []) (xa_cons (x_lit [32]) (xa_cons (x_lit [42, 42]) (xa_cons (x_lit [49, 45]) (xa_cons (x_lit [45, 49]) (xa_cons (x_lit [53, 45, 52]) (xa_cons (x_lit [49, 47, 48]) (xa_cons (x_lit [49, 47, 49, 48, 48]) (xa_cons (x_lit [48, 49]) (xa_cons (x_lit [49, 47, 48, 53]) (xa_cons (x_lit [120]) (xa_cons (x_lit [49, 45, 45, 50]) (xa_cons (x_lit [47, 50]) (xa_cons (x_lit [49, 47, 50, 47, 51]) (xa_cons (x_lit [108]) (xa_cons (x_lit [108, 119]) xa_nil))))))))))))))))) rfl ?_)
  refine (x_setOE B S 2 2 (ρ1 := [_, _, _, _]) (x_catO (x_ownQ B 2 2) ((xo_lst (xa_cons (x_lit [53, 46]) (xa_cons (x_lit [76, 42]) (xa_cons (x_lit [76, 76]) (xa_cons (x_lit [76, 47, 50]) (xa_cons (x_lit [49, 32]) (xa_cons (x_lit [32, 49]) (xa_cons (x_lit [42, 47]) (xa_cons (x_lit [49, 45, 50, 45, 51]) (xa_cons (x_lit [87]) (xa_cons (x_lit [35, 49]) (xa_cons (x_lit [49, 35]) (xa_cons (x_lit [43, 49]) (xa_cons (x_lit [76, 45]) (xa_cons (x_lit [49, 53, 119]) (xa_cons (x_lit [53, 108]) (xa_cons (x_lit [49, 95, 48]) xa_nil)))))))))))))))))).q (by decide)) rfl ?_)
  refine (x_setOE B S 3 3 (ρ1 := [_, _, _, _]) (xo_lst (xa_cons (x_lit [48]) (xa_cons (x_lit [51, 50]) (xa_cons (x_lit [48, 45, 53]) (xa_cons (x_lit [51, 48, 45, 51, 50]) (xa_cons (x_lit [76, 45, 48]) (xa_cons (x_lit [76, 45, 51, 49]) (xa_cons (x_lit [76, 45, 48, 49]) (xa_cons (x_lit [48, 87]) (xa_cons (x_lit [51, 50, 87]) (xa_cons (x_lit [48, 49, 87]) (xa_cons (x_lit [53, 76]) (xa_cons (x_lit [49, 35, 49]) (xa_cons (x_lit [76, 45, 87]) xa_nil)))))))))))))) rfl ?_)
  have hx : atI (txs (wrongA ++ wrongB wk)) (t : Int) = some (.tx (wrongI wk t)) := txs_ix (by cases wk <;> exact ht)
  cases wk
  · refine xb_ifF (xt_val (x_var B 1 1)) rfl ?_
    exact x_ret (x_ixQ ((x_catO (x_ownQ B 2 2) (x_ownQ B 3 3) (by decide))).q (x_var B 0 0) hx)
  · refine xb_ifN (ρ1 := [.val (.int (t : Nat)), .val (.bl true), .own (txs wrongA), .own (txs (wrongB true))]) (xt_val (x_var B 1 1)) rfl (x_setOE B S 3 3 (ρ1 := [_, _, _, _]) (xo_lst (xa_cons (x_lit [56]) (xa_cons (x_lit [48, 45, 56]) (xa_cons (x_lit [56, 76]) (xa_cons (x_lit [53, 35, 48]) (xa_cons (x_lit [53, 35, 54]) (xa_cons (x_lit [56, 35, 49]) (xa_cons (x_lit [76]) (xa_cons (x_lit [76, 87]) (xa_cons (x_lit [49, 87]) (xa_cons (x_lit [48, 53, 76]) (xa_cons (x_lit [53, 35, 48, 49]) (xa_cons (x_lit [49, 76, 47, 50]) (xa_cons (x_lit [54, 45, 48]) xa_nil)))))))))))))) rfl xb_nil) ?_
    exact x_ret (x_ixQ ((x_catO (x_ownQ B 2 2) (x_ownQ B 3 3) (by decide))).q (x_var B 0 0) hx)
theorem ok_law_items (T : DefAt K mg "_law_items" s_law_items ["_law_cell", "_law_turns", "_law_week", "_law_mixed"]) (c_law_digits : FnC P w K mg base "_law_digits" 2 3 phi_law_digits) (c_law_right : FnC P w K mg base "_law_right" 1 3 phi_law_right) (c_law_wrong : FnC P w K mg base "_law_wrong" 1 2 phi_law_wrong) (m_enumerate : mg "enumerate" = none) (m_range : mg "range" = none) : FnC P w K mg base "_law_items" 3 4 phi_law_items := by
  refine def_ok T sc_law_items (nk := nk_law_items) rfl (by decide +kernel) rfl fun X W ds B S hl nb => ?_
  clear hl
  obtain ⟨c, t, wk, b, rfl⟩ : ∃ (c t : Int) (wk b : Bool), ds = [.int c, .int t, .bl wk, .bl b] := by
    unfold phi_law_items at nb
    split at nb
    · exact ⟨_, _, _, _, rfl⟩
    · exact absurd rfl nb
  refine ⟨.retO ((itsL b c t wk).map itD), ?_, .fr _⟩
  obtain ⟨a0, a1, a2, a3, a4, a5, a6, a7, a8, a9, e, h0, h1, h2, h3, h4, h5, h6, h7, h8, h9⟩ := b10 (digV_ok b c [4, 6, 5, 3, 3, 42, 42, 45, 45, 9] (by decide))
  have ei : itsL b c t wk = its3 wk (shareN a3) (turnsN b t (manyN a0 a1 a2)) a4 a5 a6 a7 a8 a9 := by
    unfold itsL
    rw [e]
    simp only [Int.toNat_natCast]
  rw [ei]
  refine (x_setE B S 4 4 (ρ1 := [_, _, _, _, _, _, _, _, _, _]) (x_callO B c_law_digits 10 (xa_cons (x_var B 0 0) (xa_cons (xo_lst (xa_cons xe_int (xa_cons xe_int (xa_cons xe_int (xa_cons xe_int (xa_cons xe_int (xa_cons xe_int (xa_cons xe_int (xa_cons xe_int (xa_cons xe_int (xa_cons xe_int xa_nil))))))))))).dat (xa_cons (x_var B 3 3) xa_nil))) (dig_is e)).dat rfl ?_)
  have hm : 1 ≤ manyN a0 a1 a2 ∧ manyN a0 a1 a2 ≤ 50 := by
    unfold manyN
    split <;> omega
  have hmx : atI [D.int (1 + (a1 : Int)), .int (38 + (a2 : Int))] ((a0 : Int) % 2) = some (.int (manyN a0 a1 a2 : Nat)) := by
    unfold manyN
    rcases (by omega : a0 % 2 = 0 ∨ a0 % 2 = 1) with q | q
    · rw [if_pos q, show (a0 : Int) % 2 = 0 by omega]
      show some (D.int (1 + (a1 : Int))) = _
      congr 2
    · rw [if_neg (by omega), show (a0 : Int) % 2 = 1 by omega]
      show some (D.int (38 + (a2 : Int))) = _
      congr 2
  refine (x_setE B S 5 5 (d := .int (manyN a0 a1 a2 : Nat)) (ρ1 := [_, _, _, _, _, _, _, _, _, _]) (x_ix (xo_lst (xa_cons (x_bin xe_int (x_ix (x_var B 4 4) xe_int (.lst _ _ _ rfl)) (by first | exact .addI _ _ | exact .catS _ _ (by first | assumption | omega | decide))) (xa_cons (x_bin xe_int (x_ix (x_var B 4 4) xe_int (.lst _ _ _ rfl)) (by first | exact .addI _ _ | exact .catS _ _ (by first | assumption | omega | decide))) xa_nil))).dat (x_bin (x_ix (x_var B 4 4) xe_int (.lst _ _ _ rfl)) xe_int (.modI _ _ (by decide))) (.lst _ _ _ hmx)) rfl ?_)
  have hsx : atI [D.int 0, .int 26, .int 3] (a3 : Int) = some (.int (shareN a3 : Nat)) := by
    rcases (by omega : a3 = 0 ∨ a3 = 1 ∨ a3 = 2) with rfl | rfl | rfl <;> rfl
  refine (x_setE B S 6 6 (d := .int (shareN a3 : Nat)) (ρ1 := [_, _, _, _, _, _, _, _, _, _]) (x_ix (xo_lst (xa_cons xe_int (xa_cons xe_int (xa_cons xe_int xa_nil)))).dat (x_ix (x_var B 4 4) xe_int (.lst _ _ _ rfl)) (.lst _ _ _ hsx)) rfl ?_)
  refine (x_setOE B S 7 7 (ρ1 := [_, _, _, _, _, _, _, _, _, _]) (xo_lst xa_nil) rfl ?_)
  have hd := due_dig b t (manyN a0 a1 a2) (by omega)
  have tl := turns_len b t (manyN a0 a1 a2)
  generalize manyN a0 a1 a2 = m at *
  generalize turnsN b t m = ts at *
  generalize shareN a3 = sh at *
  refine x_for B S (x_enum B 11 m_enumerate (x_callO B c_law_digits 10 (xa_cons (x_var B 1 1) (xa_cons (x_repL (xo_lst (xa_cons xe_int xa_nil)) (x_var B 5 5) ⟨by omega, by omega, by simp; omega⟩).dat (xa_cons (x_var B 3 3) xa_nil))) hd).dat) (fo_enumI (F := fun k : Nat => D.int (k : Nat)) (fun y : List (List Nat × Bool) => [.val (.int c), .val (.int t), .val (.bl wk), .val (.bl b), .val (.lst ([(a0 : Int), a1, a2, a3, a4, a5, a6, a7, a8, a9].map D.int)), .val (.int (m : Nat)), .val (.int (sh : Nat)), .own (y.map itD), .no, .no]) (fun y n x => y ++ [itI wk sh (n, x)]) (fun y n r => y.length = n ∧ y.length + r.length ≤ 100) (as := ts) (n := 0) (y := []) ⟨rfl, by simp only [List.length_nil]; omega⟩ fun y x r n hp => ⟨⟨by rw [List.length_append, hp.1]; rfl, by
      have := hp.2
      simp only [List.length_append, List.length_cons, List.length_nil] at this ⊢
      omega⟩, ?_⟩) ?_
  · refine ⟨[_, _, _, _, _, _, _, _, _, _], (xg_tup B.calm (xgs_cons (x_tgt B S.fn 8 8) (xgs_cons (x_tgt B S.fn 9 9) xgs_nil)) rfl), ?_⟩
    have h2 := hp.2
    simp only [List.length_cons] at h2
    have hb : (decide ((n : Int) < 30) && decide ((x : Int) / 7 < (sh : Int))) = mk0 sh n x := by
      unfold mk0
      rw [show decide ((n : Int) < 30) = decide (n < 30) from decide_eq_decide.mpr (by omega), show decide ((x : Int) / 7 < (sh : Int)) = decide (x / 7 < sh) from decide_eq_decide.mpr (by omega)]
    rw [List.map_append, List.map_singleton]
    exact x_puE B 7 7 (ρ1 := [_, _, _, _, _, _, _, _, _, _]) rfl ((xe_tup (xa_cons (x_call B c_law_right 12 (xa_cons (x_var B 9 9) (xa_cons (x_var B 2 2) (xa_cons (xe_andV (xe_cmp (x_var B 8 8) xe_int (.lt _ _)) fun hq0 => (xe_one (xe_cmp (x_bin (x_var B 9 9) xe_int (.divI _ _ ⟨by decide, by decide⟩)) (x_var B 6 6) (.lt _ _)))) xa_nil))) lright_val) (xa_cons xe_bl xa_nil))).is (show D.tup [.tx (rightT wk (decide ((n : Int) < 30) && decide ((x : Int) / 7 < (sh : Int))) x), .bl true] = itD (itI wk sh (n, x)) by rw [hb] <;> rfl)) (by rw [List.length_map]; omega) rfl (xb_end (by (repeat' (first | exact WkL.nil | apply WkL.cons)) <;> (first | exact Wk.same _ | exact Wk.no _)))
  rw [foldl_snoc (fun xi : Nat × Nat => itI wk sh (xi.2, xi.1)), List.nil_append]
  show XB _ _ [_, _, _, _, _, _, _, .own ((its1 wk sh ts).map itD), _, _] _ _
  have l1 := its1_len (wk := wk) (share := sh) (ts := ts)
  have hp9 : ∀ q : Nat, ((q : Int) % ((m : Nat) : Int)) = ((q % m : Nat) : Int) := fun q => by push_cast; rfl
  refine x_for B S (x_range1 B 13 m_range (x_ix (x_var B 4 4) xe_int (.lst _ _ _ rfl)) (by omega)) (fo_foldM (as := List.range ((a4 : Nat) : Int).toNat) (F := fun k : Nat => D.int (0 + (k : Int))) (fun y : List (List Nat × Bool) => [.val (.int c), .val (.int t), .val (.bl wk), .val (.bl b), .val (.lst ([(a0 : Int), a1, a2, a3, a4, a5, a6, a7, a8, a9].map D.int)), .val (.int (m : Nat)), .val (.int (sh : Nat)), .own (y.map itD), .no, .no]) (fun l k => l.set ((if k = 0 then a5 else a6) % ts.length) (wrongI wk (if k = 0 then a7 else a8), false)) (y := its1 wk sh ts) (fun y r => y.length = m ∧ ∀ k ∈ r, k < 2) ⟨by omega, fun k hk => by have := List.mem_range.mp hk; omega⟩ fun y k r hp => ⟨⟨by rw [List.length_set]; exact hp.1, fun x hx => hp.2 x (List.mem_cons_of_mem _ hx)⟩, ?_⟩) ?_
  · have hk := hp.2 k List.mem_cons_self
    refine ⟨[_, _, _, _, _, _, _, _, _, _], (x_tgt B S.fn 8 8), ?_⟩
    simp only [Int.zero_add]
    have hk2 : k = 0 ∨ k = 1 := by omega
    have e5 : atI ([(a0 : Int), a1, a2, a3, a4, a5, a6, a7, a8, a9].map D.int) (5 + (k : Int)) = some (.int ((if k = 0 then a5 else a6 : Nat) : Int)) := by rcases hk2 with rfl | rfl <;> rfl
    have e7 : atI ([(a0 : Int), a1, a2, a3, a4, a5, a6, a7, a8, a9].map D.int) (7 + (k : Int)) = some (.int ((if k = 0 then a7 else a8 : Nat) : Int)) := by rcases hk2 with rfl | rfl <;> rfl
    have hw : (if k = 0 then a7 else a8) < 45 := by split <;> omega
    generalize (if k = 0 then a7 else a8) = w at *
    generalize (if k = 0 then a5 else a6) = q at *
    rw [tl, List.map_set]
    have hq := Nat.mod_lt q (show 0 < m by omega)
    refine x_stE B 7 7 (ρ1 := [_, _, _, _, _, _, _, _, _, _]) rfl (xe_tup (xa_cons (x_call B c_law_wrong 14 (xa_cons (x_ix (x_var B 4 4) (x_bin xe_int (x_var B 8 8) (by first | exact .addI _ _ | exact .catS _ _ (by first | assumption | omega | decide))) (.lst _ _ _ e7)) (xa_cons (x_var B 2 2) xa_nil)) (lwrong_val hw)) (xa_cons xe_bl xa_nil))) (x_bin (x_ix (x_var B 4 4) (x_bin xe_int (x_var B 8 8) (by first | exact .addI _ _ | exact .catS _ _ (by first | assumption | omega | decide))) (.lst _ _ _ e5)) (x_var B 5 5) (.modI _ _ (by omega))) (by
      rw [hp9, List.length_map, hp.1]
      unfold ixN
      rw [if_pos (by omega), if_pos (by omega), Int.toNat_natCast]) rfl (xb_end (by (repeat' (first | exact WkL.nil | apply WkL.cons)) <;> (first | exact Wk.same _ | exact Wk.no _)))
  show XB _ _ [_, _, _, _, _, _, _, .own ((its2 wk sh ts a4 a5 a6 a7 a8).map itD), _, _] _ _
  have l2 := (its2_ok (wk := wk) (share := sh) (ts := ts) (n := a4) (p5 := a5) (p6 := a6) (p7 := a7) (p8 := a8) (by omega) (by omega)).2
  unfold its3
  generalize its2 wk sh ts a4 a5 a6 a7 a8 = ps at *
  rw [pairs_app]
  refine xb_ifm (ρ1 := [.val (.int c), .val (.int t), .val (.bl wk), .val (.bl b), .val (.lst ([(a0 : Int), a1, a2, a3, a4, a5, a6, a7, a8, a9].map D.int)), .val (.int (m : Nat)), .val (.int (sh : Nat)), .own (ps.map itD ++ (if a9 = 5 then List.replicate 80 ([49, 45, 50], true) else []).map itD), .no, .no]) (xt_cmpv (x_ix (x_var B 4 4) xe_int (.lst _ _ _ rfl)) xe_int (by first | exact .eqI _ _ | exact .eqS _ _ | exact .eqB _ _)) (fun h => ?_) (fun h => ?_) ?_
  · have h' : a9 = 5 := by simp only [decide_eq_true_eq] at h; omega
    rw [if_pos h', ← pairs_rep]
    exact x_setOE B S 7 7 (ρ1 := [_, _, _, _, _, _, _, _, _, _]) (x_catO (x_ownQ B 7 7) ((x_repL (xo_lst (xa_cons (xe_tup (xa_cons (x_lit [49, 45, 50]) (xa_cons xe_bl xa_nil))) xa_nil)) xe_int ⟨by decide, by decide, by decide⟩)).q (by simp; omega)) rfl (xb_end (by (repeat' (first | exact WkL.nil | apply WkL.cons)) <;> (first | exact Wk.same _ | exact Wk.no _)))
  · have h' : ¬ a9 = 5 := by simp only [decide_eq_false_iff_not] at h; omega
    rw [if_neg h', List.map_nil, List.append_nil]
    exact xb_end (by (repeat' (first | exact WkL.nil | apply WkL.cons)) <;> (first | exact Wk.same _ | exact Wk.no _))
  refine xb_ifm (ρ1 := [.val (.int c), .val (.int t), .val (.bl wk), .val (.bl b), .val (.lst ([(a0 : Int), a1, a2, a3, a4, a5, a6, a7, a8, a9].map D.int)), .val (.int (m : Nat)), .val (.int (sh : Nat)), .own (ps.map itD ++ (if a9 = 5 then List.replicate 80 ([49, 45, 50], true) else if a9 = 6 then (List.replicate 45 [([49], true), (rightT wk true 0, true)]).flatten else []).map itD), .no, .no]) (xt_cmpv (x_ix (x_var B 4 4) xe_int (.lst _ _ _ rfl)) xe_int (by first | exact .eqI _ _ | exact .eqS _ _ | exact .eqB _ _)) (fun h => ?_) (fun h => ?_) ?_
  · have h' : a9 = 6 := by simp only [decide_eq_true_eq] at h; omega
    have h5 : ¬ a9 = 5 := by omega
    rw [if_neg h5, if_neg h5, if_pos h', List.map_nil, List.append_nil, ← pairs_rep2]
    exact x_setOE B S 7 7 (ρ1 := [_, _, _, _, _, _, _, _, _, _]) (x_catO (x_ownQ B 7 7) ((x_repL (xo_lst (xa_cons (xe_tup (xa_cons (x_lit [49]) (xa_cons xe_bl xa_nil))) (xa_cons (xe_tup (xa_cons (x_call B c_law_right 12 (xa_cons xe_int (xa_cons (x_var B 2 2) (xa_cons xe_bl xa_nil))) (by exact lright_val (t := 0))) (xa_cons xe_bl xa_nil))) xa_nil))) xe_int ⟨by decide, by decide, by simp⟩)).q (by simp; omega)) rfl (xb_end (by (repeat' (first | exact WkL.nil | apply WkL.cons)) <;> (first | exact Wk.same _ | exact Wk.no _)))
  · have h' : ¬ a9 = 6 := by simp only [decide_eq_false_iff_not] at h; omega
    by_cases h5 : a9 = 5
    · rw [if_pos h5, if_pos h5]
      exact xb_end (by (repeat' (first | exact WkL.nil | apply WkL.cons)) <;> (first | exact Wk.same _ | exact Wk.no _))
    · rw [if_neg h5, if_neg h5, if_neg h']
      exact xb_end (by (repeat' (first | exact WkL.nil | apply WkL.cons)) <;> (first | exact Wk.same _ | exact Wk.no _))
  exact x_retOwn B 7 7
theorem ok_law_is_mark (T : DefAt K mg "_law_is_mark" s_law_is_mark ["_law_text"]) : FnC P w K mg base "_law_is_mark" 1 1 phi_law_is_mark := by
  refine def_ok T sc_law_is_mark (nk := nk_law_is_mark) rfl (by decide +kernel) rfl fun X W ds B S hl nb => ?_
  obtain ⟨l, rfl, hb⟩ := inv_T nb
  refine ⟨.ret (.bl (isMk l)), ?_, .ret _⟩
  refine (x_ret (xe_orV (x_inT (x_lit [76]) (x_var B 0 0)) fun hq0 => (xe_orV (x_inT (x_lit [87]) (x_var B 0 0)) fun hq1 => (xe_one (x_inT (x_lit [35]) (x_var B 0 0)))))).is ?_
  unfold isMk
  simp
theorem ok_law_due (ps : List (List Nat × Bool)) (T : DefAt K mg "_law_due" s_law_due ["_law_items_here"]) (c_law_is_mark : FnC P w K mg base "_law_is_mark" 1 1 phi_law_is_mark) (m_len : mg "len" = none) (m_range : mg "range" = none) (m_min : mg "min" = none) (m_int : mg "int" = none) : FnC P w K mg base "_law_due" 2 1 (phi_law_due ps) := by
  refine def_ok T sc_law_due (nk := nk_law_due) rfl (by decide +kernel) rfl fun X W ds B S hl nb => ?_
  clear hl
  obtain ⟨rfl, hl, hz⟩ := if_okC nb
  refine ⟨.ret (optN (dueX ps)), ?_, by
    rw [due_val ⟨hl, hz⟩]
    exact .ret _⟩
  have hj : ∀ {l : List D}, l = ps.map (fun p => D.tx p.1) → l = txs (ps.map (·.1)) := fun e => by
    rw [e]
    unfold txs
    rw [List.map_map]
    rfl
  have hln : (ps.map (·.1)).length = ps.length := List.length_map ..
  have hjl : (joinL [44] (ps.map (·.1))).length ≤ 10000 := by
    by_cases ne : ps.map (·.1) = []
    · rw [ne]
      decide
    · have := joinL_len 44 ne
      omega
  by_cases h3 : 300 < (joinL [44] (ps.map (·.1))).length
  · have e0 : dueX ps = some 0 := if_pos h3
    rw [e0]
    refine xb_ifT (xt_cmpv (x_lenT B 5 m_len (x_join (x_lit [44]) ((xo_lcE B (own := [("_law_text", 1), ("_law_good", 2)]) (ρ2 := [_, _, _, _, _]) (okb B) (xi_list (x_var B 0 0)) (by rw [List.length_map]; omega) rfl (lc_mapM (as := ps) (F := itD) (G := fun p => D.tx p.1) ?l1))).q (hj rfl) (by simp only [List.length_cons, List.length_nil]; omega)) (by omega)) xe_int (.gt _ _)) (by simp; omega) (x_ret xe_int) trivial
    case l1 => exact fun p hp => ⟨[_, _, _, _, _], blk_of (nkc := [(".0", .«local»), ("_law_text", .«local»), ("_law_good", .«local»)]) rfl (by decide +kernel) B fun Y Bc => (xgw_tup Bc.calm (xgws_cons (x_tgw Bc 1 1) (xgws_cons (x_tgw Bc 2 2) xgws_nil)) rfl), blk_of (nkc := [(".0", .«local»), ("_law_text", .«local»), ("_law_good", .«local»)]) rfl (by decide +kernel) B fun Y Bc => (x_var Bc 1 1)⟩
  refine xb_ifF (xt_cmpv (x_lenT B 5 m_len (x_join (x_lit [44]) ((xo_lcE B (own := [("_law_text", 1), ("_law_good", 2)]) (ρ2 := [_, _, _, _, _]) (okb B) (xi_list (x_var B 0 0)) (by rw [List.length_map]; omega) rfl (lc_mapM (as := ps) (F := itD) (G := fun p => D.tx p.1) ?l2))).q (hj rfl) (by simp only [List.length_cons, List.length_nil]; omega)) (by omega)) xe_int (.gt _ _)) (by simp; omega) ?_
  case l2 => exact fun p hp => ⟨[_, _, _, _, _], blk_of (nkc := [(".0", .«local»), ("_law_text", .«local»), ("_law_good", .«local»)]) rfl (by decide +kernel) B fun Y Bc => (xgw_tup Bc.calm (xgws_cons (x_tgw Bc 1 1) (xgws_cons (x_tgw Bc 2 2) xgws_nil)) rfl), blk_of (nkc := [(".0", .«local»), ("_law_text", .«local»), ("_law_good", .«local»)]) rfl (by decide +kernel) B fun Y Bc => (x_var Bc 1 1)⟩
  refine (x_setE B S 3 3 (ρ1 := [_, _, _, _, _]) xe_int rfl ?_)
  rw [dueX_eq h3]
  refine x_forQ B S (G := fun k : Nat => D.int (0 + (k : Int))) (fun m : Nat => [.val (.lst (ps.map itD)), .no, .no, .val (.int (m : Nat)), .no]) (dueF ps) (fun k : Nat => D.int (k : Nat)) (fun _ r => ∀ k ∈ r, k < ps.length) (as := List.range (min (40 : Int) ((ps.map itD).length : Nat)).toNat) (y := 0) (r := fun _ => optN (if 40 < ps.length then some 40 else none)) (x_range1 B 6 m_range (x_min2 B 7 m_min xe_int (x_len B 5 m_len (x_var B 0 0) (by first | exact .lst _ | exact .tup _ | exact .str _ (by first | assumption | omega | decide)))) (by omega)) (fun k hk => by rw [List.length_map] at hk; have := List.mem_range.mp hk; omega) (fun m k r hp => ?_) (fun m _ _ => ?_)
  · have hk := hp k List.mem_cons_self
    refine ⟨[_, _, _, _, _], (x_tgt B S.fn 4 4), ?_⟩
    simp only [Int.zero_add]
    have hix := its_ix hk
    unfold dueF
    generalize ps.getD k ([], false) = q at *
    obtain ⟨t, g⟩ := q
    simp only
    have hr : ∀ x ∈ r, x < ps.length := fun x hx => hp x (List.mem_cons_of_mem _ hx)
    generalize em : (if (g && isMk t) = true then m + 1 else m) = m' at *
    by_cases q : (!g || decide (20 < m')) = true
    · rw [if_pos q]
      refine (x_asg (ρ1 := [_, _, _, _, _]) (x_ix (x_var B 0 0) (x_var B 4 4) (.lst _ _ _ hix)) (xg_tup B.calm (xgs_cons (x_tgt B S.fn 1 1) (xgs_cons (x_tgt B S.fn 2 2) xgs_nil)) rfl) ?_)
      refine xb_ifm (ρ1 := [.val (.lst (ps.map itD)), .val (.tx t), .val (.bl g), .val (.int ((m' : Nat) : Int)), .val (.int (k : Nat))]) ((xv_and (xt_val (x_var B 2 2)) fun hq0 => (xv_and1 (xt_val (x_call B c_law_is_mark 8 (xa_cons (x_var B 1 1) xa_nil) rfl))))).t (fun h => ?_) (fun h => ?_) ?_
      · rw [← em, if_pos h]
        exact x_setE B S 3 3 (ρ1 := [_, _, _, _, _]) ((x_bin (x_var B 3 3) xe_int (by first | exact .addI _ _ | exact .catS _ _ (by first | assumption | omega | decide))).is (congrArg D.int (by push_cast; rfl))) rfl xb_nil
      · rw [← em, if_neg (by rw [h]; decide)]
        exact xb_nil
      refine xb_ifT ((xv_or (xt_not (xt_val (x_var B 2 2))) fun hq0 => (xv_or1 (xt_cmpv (x_var B 3 3) xe_int (.gt _ _))))).t ?_ (x_ret (x_var B 4 4)) trivial
      rw [← q]
      congr 1
      exact decide_eq_decide.mpr (by omega)
    · rw [if_neg q]
      refine ⟨hr, ?_⟩
      refine (x_asg (ρ1 := [_, _, _, _, _]) (x_ix (x_var B 0 0) (x_var B 4 4) (.lst _ _ _ hix)) (xg_tup B.calm (xgs_cons (x_tgt B S.fn 1 1) (xgs_cons (x_tgt B S.fn 2 2) xgs_nil)) rfl) ?_)
      refine xb_ifm (ρ1 := [.val (.lst (ps.map itD)), .val (.tx t), .val (.bl g), .val (.int ((m' : Nat) : Int)), .val (.int (k : Nat))]) ((xv_and (xt_val (x_var B 2 2)) fun hq0 => (xv_and1 (xt_val (x_call B c_law_is_mark 8 (xa_cons (x_var B 1 1) xa_nil) rfl))))).t (fun h => ?_) (fun h => ?_) ?_
      · rw [← em, if_pos h]
        exact x_setE B S 3 3 (ρ1 := [_, _, _, _, _]) ((x_bin (x_var B 3 3) xe_int (by first | exact .addI _ _ | exact .catS _ _ (by first | assumption | omega | decide))).is (congrArg D.int (by push_cast; rfl))) rfl xb_nil
      · rw [← em, if_neg (by rw [h]; decide)]
        exact xb_nil
      refine xb_ifF ((xv_or (xt_not (xt_val (x_var B 2 2))) fun hq0 => (xv_or1 (xt_cmpv (x_var B 3 3) xe_int (.gt _ _))))).t ?_ (xb_end (by (repeat' (first | exact WkL.nil | apply WkL.cons)) <;> (first | exact Wk.same _ | exact Wk.no _)))
      rw [← Bool.eq_false_iff.mpr q]
      congr 1
      exact decide_eq_decide.mpr (by omega)
  · have hx : atI [D.non, .int 40] (if decide ((((ps.map itD).length : Nat) : Int) > 40) = true then 1 else 0) = some (optN (if 40 < ps.length then some 40 else none)) := by
      rw [List.length_map]
      by_cases q : 40 < ps.length
      · rw [if_pos q, if_pos (by simp; omega)]
        rfl
      · rw [if_neg q, if_neg (by simp; omega)]
        rfl
    exact x_ret (x_ix (xo_lst (xa_cons xe_non (xa_cons xe_int xa_nil))).dat (x_intB B 9 m_int (xe_cmp (x_len B 5 m_len (x_var B 0 0) (by first | exact .lst _ | exact .tup _ | exact .str _ (by first | assumption | omega | decide))) xe_int (.gt _ _))) (.lst _ _ _ hx))
theorem ok_law_told (wk : Bool) (d : D) (T : DefAt K mg "_law_told" s_law_told ["_law_text", "_law_week"]) (c_read_days : ∀ (d : D), FnL P w K mg base "read_days" 8 1 (phi_read_days a_Weekdays a_Numbers a_Last a_Near a_LastWork a_Nth a_LastOne a_Mark a_NoField d)) (c_read_weekdays : ∀ (d : D), FnL P w K mg base "read_weekdays" 8 1 (phi_read_weekdays a_Weekdays a_Numbers a_Last a_Near a_LastWork a_Nth a_LastOne a_Mark a_NoField d)) (c_law_whole : FnC P w K mg base "_law_whole" 1 1 phi_law_whole) (m_int : mg "int" = none) (m_isinstance : mg "isinstance" = none) (m_ValueError : mg "ValueError" = none) (m_list : mg "list" = none) (x_FieldError : ExCls K mg "FieldError" a_FieldError) (x_NoField : ExCls K mg "NoField" a_NoField) (w_NoBook : mg "NoBook" = some (.ref a_NoBook)) (w_NoClock : mg "NoClock" = some (.ref a_NoClock)) (w_NoDay : mg "NoDay" = some (.ref a_NoDay)) (w_NoMoment : mg "NoMoment" = some (.ref a_NoMoment)) (w_NoName : mg "NoName" = some (.ref a_NoName)) (w_NoRow : mg "NoRow" = some (.ref a_NoRow)) (w_NoWord : mg "NoWord" = some (.ref a_NoWord)) (i_NoField : ExI P w K mg base "NoField" a_NoField "at") (cq_law_whole : FnQ P w K mg base "_law_whole" 1 1 phi_wholeQ) (f_sub : PySem.W.subIn K (.ref a_NoField) (.ref a_FieldError) = some true) (f_ve : PySem.W.kitOne K (.ref a_NoField) (.type "ValueError") = some true) (f_not : PySem.W.kitAny K (.ref a_NoField) [.ref a_NoBook, .ref a_NoClock, .ref a_NoDay, .ref a_NoMoment, .ref a_NoName, .ref a_NoRow, .ref a_NoWord] = some false) : FnC P w K mg base "_law_told" 9 2 (phi_told wk d) := by
  refine def_ok T sc_law_told (nk := nk_law_told) rfl (by decide +kernel) rfl fun X W ds B S hl nb => ?_
  clear hl
  obtain ⟨rfl, hq⟩ := if_okC nb
  rw [told_val hq]
  refine ⟨.ret (toldD wk d), ?_, .ret _⟩
  obtain ⟨u1, mu1, hu1⟩ := (c_read_days d).addr
  obtain ⟨u2, mu2, hu2⟩ := (c_read_weekdays d).addr
  have v1 := daysX_val (aW := a_Weekdays) (aN := a_Numbers) (aL := a_Last) (aR := a_Near) (aK := a_LastWork) (aT := a_Nth) (aO := a_LastOne) (aM := a_Mark) (C := a_NoField) hq
  have v2 := weekdaysX_val (aW := a_Weekdays) (aN := a_Numbers) (aL := a_Last) (aR := a_Near) (aK := a_LastWork) (aT := a_Nth) (aO := a_LastOne) (aM := a_Mark) (C := a_NoField) hq
  unfold toldD
  by_cases c : d = .tx [42]
  · subst c
    rw [if_pos rfl] at v1 v2 ⊢
    refine xb_cons (xs_tryOkAs (o := .nx [.val (.tx [42]), .val (.bl wk), .val .non, .no]) B S x_FieldError 3 7 3 (fun Y W' B S hY => ?_) trivial) ?_
    · cases wk
      · exact x_setE B S 2 2 (ρ1 := [_, _, _, _]) (x_callFx B hu1.nf (x_ix (xo_lst (xa_cons (x_fnv B 4 mu1) (xa_cons (x_fnv B 5 mu2) xa_nil))).dat (x_intB B 6 m_int (x_var B 1 1)) (.lst _ _ _ rfl)) (xa_cons (x_var B 0 0) xa_nil) (noXF_of v1)) rfl xb_nil
      · exact x_setE B S 2 2 (ρ1 := [_, _, _, _]) (x_callFx B hu2.nf (x_ix (xo_lst (xa_cons (x_fnv B 4 mu1) (xa_cons (x_fnv B 5 mu2) xa_nil))).dat (x_intB B 6 m_int (x_var B 1 1)) (.lst _ _ _ rfl)) (xa_cons (x_var B 0 0) xa_nil) (noXF_of v2)) rfl xb_nil
    · exact xb_ifT ((xv_or (xt_val (x_isi B 8 19 m_isinstance (x_var B 2 2) (x_cls B 19 m_list boot_list) (.ty _) (by first | exact .int _ | exact .bl _ | exact .str _ | exact .tup _ | exact .lst _ | exact .non | exact .dct _ _) kit_is)) fun hq0 => (xv_or1 ((xv_and (t_eqT (x_var B 0 0) (x_lit [42])) fun hq0 => (xv_and1 (xt_cmpv (x_var B 2 2) xe_non (.isN _))))).t))).t rfl (x_ret xe_non) trivial
  rw [if_neg c] at v1 v2 ⊢
  cases e : readQ wk d with
  | inl y =>
    refine xb_cons (xs_tryOkAs (o := .nx [.val d, .val (.bl wk), .val (.lst ((dayL wk y).map (obM a_Weekdays a_Numbers a_Last a_Near a_LastWork a_Nth a_LastOne a_Mark))), .no]) B S x_FieldError 3 7 3 (fun Y W' B S hY => ?_) trivial) ?_
    · cases wk
      · rw [e] at v1
        exact x_setE B S 2 2 (ρ1 := [_, _, _, _]) (x_callFx B hu1.nf (x_ix (xo_lst (xa_cons (x_fnv B 4 mu1) (xa_cons (x_fnv B 5 mu2) xa_nil))).dat (x_intB B 6 m_int (x_var B 1 1)) (.lst _ _ _ rfl)) (xa_cons (x_var B 0 0) xa_nil) (noXF_of v1)) rfl xb_nil
      · rw [e] at v2
        exact x_setE B S 2 2 (ρ1 := [_, _, _, _]) (x_callFx B hu2.nf (x_ix (xo_lst (xa_cons (x_fnv B 4 mu1) (xa_cons (x_fnv B 5 mu2) xa_nil))).dat (x_intB B 6 m_int (x_var B 1 1)) (.lst _ _ _ rfl)) (xa_cons (x_var B 0 0) xa_nil) (noXF_of v2)) rfl xb_nil
    · exact xb_ifT (XV.t (xv_orT (xt_val (x_isi B 8 19 m_isinstance (x_var B 2 2) (x_cls B 19 m_list boot_list) (.ty _) (by first | exact .int _ | exact .bl _ | exact .str _ | exact .tup _ | exact .lst _ | exact .non | exact .dct _ _) kit_is)) (by rfl))) rfl (x_ret xe_non) trivial
  | inr k =>
    refine xb_stop (xs_tryAsL (ns := ["at"]) (xs := [.int (k : Nat)]) (ρ1 := [.val d, .val (.bl wk), .no, .no]) (oS := .ret (.int (k : Nat))) B S x_FieldError 3 7 3 (fun Y W' B S tk eY => ?_) (PySem.W.exm_ref x_FieldError.sub x_FieldError.hd x_FieldError.ty f_sub) (fun Y a od Hh => ?_) trivial) trivial
    · cases wk
      · rw [e] at v1
        exact x_setX B S 2 2 (x_callFxX B tk hu1 (x_ix (xo_lst (xa_cons (x_fnv B 4 mu1) (xa_cons (x_fnv B 5 mu2) xa_nil))).dat (x_intB B 6 m_int (x_var B 1 1)) (.lst _ _ _ rfl)) (xa_cons (x_var B 0 0) xa_nil) v1)
      · rw [e] at v2
        exact x_setX B S 2 2 (x_callFxX B tk hu2 (x_ix (xo_lst (xa_cons (x_fnv B 4 mu1) (xa_cons (x_fnv B 5 mu2) xa_nil))).dat (x_intB B 6 m_int (x_var B 1 1)) (.lst _ _ _ rfl)) (xa_cons (x_var B 0 0) xa_nil) v2)
    · refine xb_ifF ((xv_or (xt_not (xt_val (h_is Hh x_NoField 3 8 3 m_isinstance (h_cls Hh 9 x_NoField.mg_) (.own _) kit_self))) fun hq0 => (xv_or (xt_not (xt_val (h_is Hh x_NoField 3 8 3 m_isinstance (h_bcl Hh 10 m_ValueError boot_ValueError) (.ty _) f_ve))) fun hq1 => (xv_or1 (xt_not (xt_val (q_call (Hh.q B) cq_law_whole 11 (xa_cons (h_at Hh i_NoField.cls i_NoField.no 3 3 0) xa_nil) rfl))))))).t rfl ?_
      refine xb_ifF (xt_val (h_isT Hh x_NoField (cvs := [.ref a_NoBook, .ref a_NoClock, .ref a_NoDay, .ref a_NoMoment, .ref a_NoName, .ref a_NoRow, .ref a_NoWord]) (us := [.ref a_NoBook, .ref a_NoClock, .ref a_NoDay, .ref a_NoMoment, .ref a_NoName, .ref a_NoRow, .ref a_NoWord]) 3 8 3 m_isinstance (xe_tup (xa_cons (h_cls Hh 12 w_NoBook) (xa_cons (h_cls Hh 13 w_NoClock) (xa_cons (h_cls Hh 14 w_NoDay) (xa_cons (h_cls Hh 15 w_NoMoment) (xa_cons (h_cls Hh 16 w_NoName) (xa_cons (h_cls Hh 17 w_NoRow) (xa_cons (h_cls Hh 18 w_NoWord) xa_nil)))))))) (.cons (.own _) (.cons (.own _) (.cons (.own _) (.cons (.own _) (.cons (.own _) (.cons (.own _) (.cons (.own _) .nil))))))) f_not)) rfl ?_
      exact x_ret (h_at Hh i_NoField.cls i_NoField.no 3 3 0)
theorem ok_law_longest (T : DefAt K mg "_law_longest" s_law_longest ["_law_week"]) (c_law_told : ∀ (wk : Bool) (d : D), FnC P w K mg base "_law_told" 9 2 (phi_told wk d)) : FnC P w K mg base "_law_longest" 10 1 phi_law_longest := by
  refine def_ok T sc_law_longest (nk := nk_law_longest) rfl (by decide +kernel) rfl fun X W ds B S hl nb => ?_
  clear hl
  obtain ⟨wk, rfl⟩ : ∃ wk : Bool, ds = [.bl wk] := by
    unfold phi_law_longest at nb
    split at nb
    · exact ⟨_, rfl⟩
    · exact absurd rfl nb
  refine ⟨.ret (.bl true), ?_, .ret _⟩
  have tv : ∀ {wk : Bool} {l : List Nat} {d : D}, l.length ≤ 10000 → toldD wk (.tx l) = d → phi_told wk (.tx l) [.tx l, .bl wk] = .val d := fun h1 h2 => (told_val (okQ_tx h1)).trans (by rw [h2])
  cases wk
  · refine xb_ifF (xt_val (x_var B 0 0)) rfl ?_
    refine (x_setOE B S 1 1 (ρ1 := [_, _]) (x_catO ((x_repL (xo_lst (xa_cons (x_lit [49, 48, 45, 50, 48, 47, 50]) xa_nil)) xe_int ⟨by decide, by decide, by decide⟩)).q ((xo_lst (xa_cons (x_lit [49, 48]) (xa_cons (x_lit [49, 48]) (xa_cons (x_lit [49, 48]) xa_nil))))).q (by decide)) rfl ?_)
    refine xb_ifF (xt_cmpv (x_call B (c_law_told _ _) 2 (xa_cons (x_join (x_lit [44]) ((x_catO (x_ownQ B 1 1) ((xo_lst (xa_cons (x_lit [49, 45, 50]) xa_nil))).q (by decide))).q (show _ = txs (List.replicate 36 [49, 48, 45, 50, 48, 47, 50] ++ [[49, 48], [49, 48], [49, 48] ] ++ [[49, 45, 50] ]) from rfl) (by exact Nat.le_of_ble_eq_true rfl)) (xa_cons xe_bl xa_nil)) (tv (by exact Nat.le_of_ble_eq_true rfl) told_d40)) xe_non (.notN _)) rfl ?_
    exact (x_ret (xe_cmp (x_call B (c_law_told _ _) 2 (xa_cons (x_join (x_lit [44]) ((x_catO (x_ownQ B 1 1) ((xo_lst (xa_cons (x_lit [49, 45, 49, 50]) xa_nil))).q (by decide))).q (show _ = txs (List.replicate 36 [49, 48, 45, 50, 48, 47, 50] ++ [[49, 48], [49, 48], [49, 48] ] ++ [[49, 45, 49, 50] ]) from rfl) (by exact Nat.le_of_ble_eq_true rfl)) (xa_cons xe_bl xa_nil)) (tv (by exact Nat.le_of_ble_eq_true rfl) told_d41)) xe_int (by first | exact .eqI _ _ | exact .eqS _ _ | exact .eqB _ _))).is rfl
  · refine xb_ifT (xt_val (x_var B 0 0)) rfl ((x_ret (xe_andV (xe_cmp (x_call B (c_law_told _ _) 2 (xa_cons (x_join (x_lit [44]) ((x_repL (xo_lst (xa_cons (x_lit [48, 45, 54, 47, 57, 57]) xa_nil)) xe_int ⟨by decide, by decide, by decide⟩)).q (show _ = txs (List.replicate 40 [48, 45, 54, 47, 57, 57]) from rfl) (by exact Nat.le_of_ble_eq_true rfl)) (xa_cons xe_bl xa_nil)) (tv (by exact Nat.le_of_ble_eq_true rfl) told_w40)) xe_non (.isN _)) fun hq0 => (xe_one (xe_cmp (x_call B (c_law_told _ _) 2 (xa_cons (x_cat (x_repS (n := 80) (x_lit [49, 45, 50, 44]) xe_int ⟨by decide, by decide, by decide⟩) (x_lit [49]) (by exact Nat.le_of_ble_eq_true rfl)) (xa_cons xe_bl xa_nil)) (tv (by exact Nat.le_of_ble_eq_true rfl) (told_long (by exact Nat.le_of_ble_eq_true rfl)))) xe_int (by first | exact .eqI _ _ | exact .eqS _ _ | exact .eqB _ _))))).is rfl) trivial
theorem ok_law {f : Addr} {fd : FuncData} (T : Fun K "law" "law" s_law f fd) (c_law_cell_at : FnC P w K mg base "_law_cell_at" 1 2 phi_law_cell_at) (c_law_items : FnC P w K mg base "_law_items" 3 4 phi_law_items) (c_law_told : ∀ (wk : Bool) (d : D), FnC P w K mg base "_law_told" 9 2 (phi_told wk d)) (c_law_due : ∀ (ps : List (List Nat × Bool)), FnC P w K mg base "_law_due" 2 1 (phi_law_due ps)) (c_law_longest : FnC P w K mg base "_law_longest" 10 1 phi_law_longest) (m_int : mg "int" = none) : FnOk P w K mg base (L2N.CX P w) 11 f fd ["_law_script"] (spD K 1 phiLaw) := by
  refine def_fn T sc_law (nk := nk_law) rfl (by decide +kernel) rfl fun X W ds B S hl nb => ?_
  obtain ⟨ns, h63, rfl⟩ := phiLaw_inv nb
  clear nb hl
  rw [phiLaw_ok h63]
  refine ⟨.ret (.bl true), ?_, .ret _⟩
  refine (x_setE B S 1 1 (ρ1 := [_, _, _, _, _, _, _, _, _]) (xe_cmp (x_bin (x_call B c_law_cell_at 7 (xa_cons (x_var B 0 0) (xa_cons xe_int xa_nil)) (cell_val (by omega))) xe_int (.modI _ _ (by decide))) xe_int (by first | exact .eqI _ _ | exact .eqS _ _ | exact .eqB _ _)) rfl ?_)
  generalize (decide (cell ns 0 % 2 = 1)) = b
  refine x_forE B S [2, 3, 4, 5, 6] (ρ2 := [_, _, _, _, _, _, _, _, _]) (xi_tup (xe_tup (xa_cons xe_bl (xa_cons xe_bl xa_nil)))) rfl (fo_all fun d hd => ?_) (x_ret xe_bl)
  obtain ⟨wk, rfl⟩ : ∃ wk : Bool, d = .bl wk := by
    simp only [List.mem_cons, List.not_mem_nil, or_false] at hd
    rcases hd with rfl | rfl
    · exact ⟨_, rfl⟩
    · exact ⟨_, rfl⟩
  refine ⟨[_, _, _, _, _, _, _, _, _], (x_tgt B S.fn 2 2), ?_⟩
  refine (x_setE B S 3 3 (ρ1 := [_, _, _, _, _, _, _, _, _]) (x_bin xe_int (x_bin xe_int (x_intB B 8 m_int (x_var B 2 2)) (.mulI _ _ (.inl ⟨by decide, by decide⟩))) (by first | exact .addI _ _ | exact .catS _ _ (by first | assumption | omega | decide))) rfl ?_)
  have hz : 0 ≤ 1 + 2 * (if wk = true then (1 : Int) else 0) ∧ 1 + 2 * (if wk = true then (1 : Int) else 0) ≤ 10 := by split <;> omega
  generalize 1 + 2 * (if wk = true then (1 : Int) else 0) = z at *
  refine (x_setE B S 4 4 (ρ1 := [_, _, _, _, _, _, _, _, _]) (x_callO B c_law_items 9 (xa_cons (x_call B c_law_cell_at 7 (xa_cons (x_var B 0 0) (xa_cons (x_var B 3 3) xa_nil)) (cell_val (by omega))) (xa_cons (x_call B c_law_cell_at 7 (xa_cons (x_var B 0 0) (xa_cons (x_bin (x_var B 3 3) xe_int (by first | exact .addI _ _ | exact .catS _ _ (by first | assumption | omega | decide))) xa_nil)) (cell_val (by omega))) (xa_cons (x_var B 2 2) (xa_cons (x_var B 1 1) xa_nil)))) rfl).dat rfl ?_)
  obtain ⟨hp, ne, hl⟩ := its_dr (b := b) (c := cell ns z) (t := cell ns (z + 1)) (wk := wk)
  generalize itsL b (cell ns z) (cell ns (z + 1)) wk = ps at *
  have h8 := join_le8 hp
  have hj : ∀ {l : List D}, l = ps.map (fun p => D.tx p.1) → l = txs (ps.map (·.1)) := fun e => by
    rw [e]
    unfold txs
    rw [List.map_map]
    rfl
  have hln : (ps.map (·.1)).length = ps.length := List.length_map ..
  have hjl : (joinL [44] (ps.map (·.1))).length ≤ 10000 := by
    have := joinL_len 44 (ts := ps.map (·.1)) fun e => ne (List.map_eq_nil_iff.mp e)
    omega
  have tvd := told_val (wk := wk) (okQ_tx hjl)
  rw [told_due hp ne] at tvd
  have dv := due_val (ps := ps) ⟨hl, by omega⟩
  obtain ⟨v, hv, hsc⟩ : ∃ v : V, optN (dueX ps) = .v v ∧ scal v v = true := by cases dueX ps <;> exact ⟨_, rfl, rfl⟩
  rw [hv] at tvd dv
  refine (x_setE B S 5 5 (ρ1 := [_, _, _, _, _, _, _, _, _]) (x_join (x_lit [44]) ((xo_lcE B (own := [("_law_one", 7), ("_law_good", 8)]) (ρ2 := [_, _, _, _, _, _, _, _, _]) (okb B) (xi_list (x_var B 4 4)) (by rw [List.length_map]; omega) rfl (lc_mapM (as := ps) (F := itD) (G := fun p => D.tx p.1) ?l1))).q (hj rfl) (by simp only [List.length_cons, List.length_nil]; omega)) rfl ?_)
  case l1 => exact fun p hp => ⟨[_, _, _, _, _, _, _, _, _], blk_of (nkc := [(".0", .«local»), ("_law_one", .«local»), ("_law_good", .«local»)]) rfl (by decide +kernel) B fun Y Bc => (xgw_tup Bc.calm (xgws_cons (x_tgw Bc 7 1) (xgws_cons (x_tgw Bc 8 2) xgws_nil)) rfl), blk_of (nkc := [(".0", .«local»), ("_law_one", .«local»), ("_law_good", .«local»)]) rfl (by decide +kernel) B fun Y Bc => (x_var Bc 7 1)⟩
  refine xb_ifF ((xv_or (t_neV (x_call B (c_law_told _ _) 10 (xa_cons (x_var B 5 5) (xa_cons (x_var B 2 2) xa_nil)) tvd) (x_call B (c_law_due _) 11 (xa_cons (x_var B 4 4) xa_nil) dv) hsc) fun hq0 => (xv_or1 (xt_not (xt_val (x_call B c_law_longest 12 (xa_cons (x_var B 2 2) xa_nil) rfl)))))).t (by simp) ?_
  obtain ⟨d, hd, hix⟩ := thing_ix (k := cell ns 0 / 2 % 6) (by omega)
  refine (x_setE B S 6 6 (ρ1 := [_, _, _, _, _, _, _, _, _]) (x_ix (xo_lst (xa_cons xe_non (xa_cons xe_int (xa_cons xe_bl (xa_cons (xo_lst (xa_cons (x_lit [49]) xa_nil)).dat (xa_cons (xe_tup (xa_cons (x_lit [49]) xa_nil)) (xa_cons xe_dct0 xa_nil))))))).dat (x_bin (x_bin (x_call B c_law_cell_at 7 (xa_cons (x_var B 0 0) (xa_cons xe_int xa_nil)) (cell_val (by omega))) xe_int (.divI _ _ ⟨by decide, by decide⟩)) xe_int (.modI _ _ (by decide))) (.lst _ _ _ hix)) rfl ?_)
  have ho : phi_told wk d [d, .bl wk] = .val (.int 0) := (told_val (.inr hd)).trans (by rw [told_odd (thing_ok hd)])
  refine xb_ifF ((xv_or (t_neV (x_call B (c_law_told _ _) 10 (xa_cons (x_var B 6 6) (xa_cons (x_var B 2 2) xa_nil)) ho) xe_int rfl) fun hq0 => (xv_or1 (t_neV (x_call B (c_law_told _ _) 10 (xa_cons (x_var B 5 5) (xa_cons (x_var B 2 2) xa_nil)) tvd) (x_call B (c_law_due _) 11 (xa_cons (x_var B 4 4) xa_nil) dv) hsc)))).t (by simp) ?_
  have h1 : phi_told wk (.tx [49, 44, 42, 10]) [.tx [49, 44, 42, 10], .bl wk] = .val (.int 1) := (told_val (okQ_tx (by decide))).trans (by rw [told_1])
  have h2 : phi_told wk (.tx [10, 42]) [.tx [10, 42], .bl wk] = .val (.int 0) := (told_val (okQ_tx (by decide))).trans (by rw [told_2])
  exact xb_ifF ((xv_or (xt_cmpv (x_call B (c_law_told _ _) 10 (xa_cons (x_lit [49, 44, 42, 10]) (xa_cons (x_var B 2 2) xa_nil)) h1) xe_int (by first | exact .neI _ _ | exact .neS _ _ | exact .neB _ _)) fun hq0 => (xv_or1 (xt_cmpv (x_call B (c_law_told _ _) 10 (xa_cons (x_lit [10, 42]) (xa_cons (x_var B 2 2) xa_nil)) h2) xe_int (by first | exact .neI _ _ | exact .neS _ _ | exact .neB _ _))))).t rfl (xb_end (by (repeat' (first | exact WkL.nil | apply WkL.cons)) <;> (first | exact Wk.same _ | exact Wk.no _)))
end
set_option maxHeartbeats 2000000 in
theorem all_mk {P : Program} {w : World} {K : PySem.W.Frag} {h : Heap} {mg : Str → Option Value} {fa : Addr} (X : K.In h) (G : h.Ns mainGlobals mg) (hfa : mg "law" = some (.ref fa))
    {a_Numbers : Addr} (n_Numbers : PySem.W.nsIn K mainGlobals "Numbers" = some (some (.ref a_Numbers)))
    (oa_Numbers : PySem.W.plainGet K a_Numbers Str.empty = true) (ob_Numbers : PySem.W.hasDictIn K a_Numbers = true) (oc_Numbers : PySem.W.plainOver K a_Numbers = true) (od_Numbers : PySem.W.findIn K (.ref a_Numbers) "__setattr__" = some (some (.builtin "object.__setattr__")))
    (of_Numbers_mask : PySem.W.findIn K (.ref a_Numbers) "mask" = some none)
    {a_Last : Addr} (n_Last : PySem.W.nsIn K mainGlobals "Last" = some (some (.ref a_Last)))
    (oa_Last : PySem.W.plainGet K a_Last Str.empty = true) (ob_Last : PySem.W.hasDictIn K a_Last = true) (oc_Last : PySem.W.plainOver K a_Last = true) (od_Last : PySem.W.findIn K (.ref a_Last) "__setattr__" = some (some (.builtin "object.__setattr__")))
    (of_Last_back : PySem.W.findIn K (.ref a_Last) "back" = some none)
    {a_Near : Addr} (n_Near : PySem.W.nsIn K mainGlobals "Near" = some (some (.ref a_Near)))
    (oa_Near : PySem.W.plainGet K a_Near Str.empty = true) (ob_Near : PySem.W.hasDictIn K a_Near = true) (oc_Near : PySem.W.plainOver K a_Near = true) (od_Near : PySem.W.findIn K (.ref a_Near) "__setattr__" = some (some (.builtin "object.__setattr__")))
    (of_Near_day : PySem.W.findIn K (.ref a_Near) "day" = some none)
    {a_Nth : Addr} (n_Nth : PySem.W.nsIn K mainGlobals "Nth" = some (some (.ref a_Nth)))
    (oa_Nth : PySem.W.plainGet K a_Nth Str.empty = true) (ob_Nth : PySem.W.hasDictIn K a_Nth = true) (oc_Nth : PySem.W.plainOver K a_Nth = true) (od_Nth : PySem.W.findIn K (.ref a_Nth) "__setattr__" = some (some (.builtin "object.__setattr__")))
    (of_Nth_weekday : PySem.W.findIn K (.ref a_Nth) "weekday" = some none)
    (of_Nth_many : PySem.W.findIn K (.ref a_Nth) "many" = some none)
    {a_LastOne : Addr} (n_LastOne : PySem.W.nsIn K mainGlobals "LastOne" = some (some (.ref a_LastOne)))
    (oa_LastOne : PySem.W.plainGet K a_LastOne Str.empty = true) (ob_LastOne : PySem.W.hasDictIn K a_LastOne = true) (oc_LastOne : PySem.W.plainOver K a_LastOne = true) (od_LastOne : PySem.W.findIn K (.ref a_LastOne) "__setattr__" = some (some (.builtin "object.__setattr__")))
    (of_LastOne_weekday : PySem.W.findIn K (.ref a_LastOne) "weekday" = some none)
    {a_Weekdays : Addr} (n_Weekdays : PySem.W.nsIn K mainGlobals "Weekdays" = some (some (.ref a_Weekdays)))
    (oa_Weekdays : PySem.W.plainGet K a_Weekdays Str.empty = true) (ob_Weekdays : PySem.W.hasDictIn K a_Weekdays = true) (oc_Weekdays : PySem.W.plainOver K a_Weekdays = true) (od_Weekdays : PySem.W.findIn K (.ref a_Weekdays) "__setattr__" = some (some (.builtin "object.__setattr__")))
    (of_Weekdays_mask : PySem.W.findIn K (.ref a_Weekdays) "mask" = some none)
    {a_LastWork : Addr} (n_LastWork : PySem.W.nsIn K mainGlobals "LastWork" = some (some (.ref a_LastWork)))
    (oa_LastWork : PySem.W.plainGet K a_LastWork Str.empty = true) (ob_LastWork : PySem.W.hasDictIn K a_LastWork = true) (oc_LastWork : PySem.W.plainOver K a_LastWork = true) (od_LastWork : PySem.W.findIn K (.ref a_LastWork) "__setattr__" = some (some (.builtin "object.__setattr__")))
    {a_Mark : Addr} (n_Mark : PySem.W.nsIn K mainGlobals "Mark" = some (some (.ref a_Mark)))
    (oa_Mark : PySem.W.plainGet K a_Mark Str.empty = true) (ob_Mark : PySem.W.hasDictIn K a_Mark = true) (oc_Mark : PySem.W.plainOver K a_Mark = true) (od_Mark : PySem.W.findIn K (.ref a_Mark) "__setattr__" = some (some (.builtin "object.__setattr__")))
    (km_Last : PySem.W.makesIn K a_Last = true) (kk_Last : PySem.W.keepIn K (.ref a_Last) = true)
    (km_LastWork : PySem.W.makesIn K a_LastWork = true) (kk_LastWork : PySem.W.keepIn K (.ref a_LastWork) = true)
    (ki_LastWork : PySem.W.findIn K (.ref a_LastWork) "__init__" = some (some (.builtin "object.__init__"))) (kt_LastWork : PySem.W.mroIn K a_LastWork (.type "object") = some true)
    (km_Near : PySem.W.makesIn K a_Near = true) (kk_Near : PySem.W.keepIn K (.ref a_Near) = true)
    (km_LastOne : PySem.W.makesIn K a_LastOne = true) (kk_LastOne : PySem.W.keepIn K (.ref a_LastOne) = true)
    (km_Nth : PySem.W.makesIn K a_Nth = true) (kk_Nth : PySem.W.keepIn K (.ref a_Nth) = true)
    (km_Numbers : PySem.W.makesIn K a_Numbers = true) (kk_Numbers : PySem.W.keepIn K (.ref a_Numbers) = true)
    (km_Weekdays : PySem.W.makesIn K a_Weekdays = true) (kk_Weekdays : PySem.W.keepIn K (.ref a_Weekdays) = true)
    {f6 : Addr} (a6 : PySem.W.findIn K (.ref a_Numbers) "__init__" = some (some (.ref f6)))
    {f7 : Addr} (a7 : PySem.W.findIn K (.ref a_Last) "__init__" = some (some (.ref f7)))
    {f8 : Addr} (a8 : PySem.W.findIn K (.ref a_Near) "__init__" = some (some (.ref f8)))
    {f9 : Addr} (a9 : PySem.W.findIn K (.ref a_Nth) "__init__" = some (some (.ref f9)))
    {f10 : Addr} (a10 : PySem.W.findIn K (.ref a_LastOne) "__init__" = some (some (.ref f10)))
    {f11 : Addr} (a11 : PySem.W.findIn K (.ref a_Weekdays) "__init__" = some (some (.ref f11)))
    {f0 : Addr} {oc0 kV0 dc0 pm0 cd0 ct0 : Value} {od0 an0 : Option Addr} {sl0 : Array (Option Value)} (a0 : PySem.W.nsIn K mainGlobals "only_figures" = some (some (.ref f0))) (l0 : K.lookup f0 = some ⟨oc0, od0, .func (PySem.W.fnOf "only_figures" "only_figures" (defArgs s_only_figures) (defBody s_only_figures) (defScope s_only_figures) .none kV0 dc0 pm0 an0 cd0 ct0), sl0⟩) (c0 : PySem.W.codeIn K cd0 "only_figures" = true) (k0 : PySem.W.keepIn K (.ref f0) = true)
    {f1 : Addr} {oc1 kV1 dc1 pm1 cd1 ct1 : Value} {od1 an1 : Option Addr} {sl1 : Array (Option Value)} (a1 : PySem.W.nsIn K mainGlobals "mask_of" = some (some (.ref f1))) (l1 : K.lookup f1 = some ⟨oc1, od1, .func (PySem.W.fnOf "mask_of" "mask_of" (defArgs s_mask_of) (defBody s_mask_of) (defScope s_mask_of) .none kV1 dc1 pm1 an1 cd1 ct1), sl1⟩) (c1 : PySem.W.codeIn K cd1 "mask_of" = true) (k1 : PySem.W.keepIn K (.ref f1) = true)
    {f2 : Addr} {oc2 kV2 dc2 pm2 cd2 ct2 : Value} {od2 an2 : Option Addr} {sl2 : Array (Option Value)} (a2 : PySem.W.nsIn K mainGlobals "number_in_fields" = some (some (.ref f2))) (l2 : K.lookup f2 = some ⟨oc2, od2, .func (PySem.W.fnOf "number_in" "number_in" (defArgs s_number_in_fields) (defBody s_number_in_fields) (defScope s_number_in_fields) .none kV2 dc2 pm2 an2 cd2 ct2), sl2⟩) (c2 : PySem.W.codeIn K cd2 "number_in" = true) (k2 : PySem.W.keepIn K (.ref f2) = true)
    {f3 : Addr} {oc3 kV3 dc3 pm3 cd3 ct3 : Value} {od3 an3 : Option Addr} {sl3 : Array (Option Value)} (a3 : PySem.W.nsIn K mainGlobals "span_in" = some (some (.ref f3))) (l3 : K.lookup f3 = some ⟨oc3, od3, .func (PySem.W.fnOf "span_in" "span_in" (defArgs s_span_in) (defBody s_span_in) (defScope s_span_in) .none kV3 dc3 pm3 an3 cd3 ct3), sl3⟩) (c3 : PySem.W.codeIn K cd3 "span_in" = true) (k3 : PySem.W.keepIn K (.ref f3) = true)
    {f4 : Addr} {oc4 kV4 dc4 pm4 cd4 ct4 : Value} {od4 an4 : Option Addr} {sl4 : Array (Option Value)} (a4 : PySem.W.nsIn K mainGlobals "item_mask" = some (some (.ref f4))) (l4 : K.lookup f4 = some ⟨oc4, od4, .func (PySem.W.fnOf "item_mask" "item_mask" (defArgs s_item_mask) (defBody s_item_mask) (defScope s_item_mask) .none kV4 dc4 pm4 an4 cd4 ct4), sl4⟩) (c4 : PySem.W.codeIn K cd4 "item_mask" = true) (k4 : PySem.W.keepIn K (.ref f4) = true)
    {f5 : Addr} {oc5 kV5 dc5 pm5 cd5 ct5 : Value} {od5 an5 : Option Addr} {sl5 : Array (Option Value)} (a5 : PySem.W.nsIn K mainGlobals "read_field" = some (some (.ref f5))) (l5 : K.lookup f5 = some ⟨oc5, od5, .func (PySem.W.fnOf "read_field" "read_field" (defArgs s_read_field) (defBody s_read_field) (defScope s_read_field) .none kV5 dc5 pm5 an5 cd5 ct5), sl5⟩) (c5 : PySem.W.codeIn K cd5 "read_field" = true) (k5 : PySem.W.keepIn K (.ref f5) = true)
    {oc6 kV6 dc6 pm6 cd6 ct6 : Value} {od6 an6 : Option Addr} {sl6 : Array (Option Value)} (l6 : K.lookup f6 = some ⟨oc6, od6, .func (PySem.W.fnOf "__init__" "Numbers.__init__" (defArgs s_Numbers_init) (defBody s_Numbers_init) (defScope s_Numbers_init) .none kV6 dc6 pm6 an6 cd6 ct6), sl6⟩) (c6 : PySem.W.codeIn K cd6 "Numbers.__init__" = true) (k6 : PySem.W.keepIn K (.ref f6) = true) (i6 : PySem.W.isFn K (.ref f6) = true)
    {dT7 : Addr} {dO7 : Obj} {oc7 kV7 dc7 pm7 cd7 ct7 : Value} {od7 an7 : Option Addr} {sl7 : Array (Option Value)} (l7 : K.lookup f7 = some ⟨oc7, od7, .func (PySem.W.fnOf "__init__" "Last.__init__" (defArgs s_Last_init) (defBody s_Last_init) (defScope s_Last_init) (.ref dT7) kV7 dc7 pm7 an7 cd7 ct7), sl7⟩) (c7 : PySem.W.codeIn K cd7 "Last.__init__" = true) (k7 : PySem.W.keepIn K (.ref f7) = true) (i7 : PySem.W.isFn K (.ref f7) = true) (dl7 : K.lookup dT7 = some dO7) (r97 : tupOf dO7 = some [.int 0])
    {oc8 kV8 dc8 pm8 cd8 ct8 : Value} {od8 an8 : Option Addr} {sl8 : Array (Option Value)} (l8 : K.lookup f8 = some ⟨oc8, od8, .func (PySem.W.fnOf "__init__" "Near.__init__" (defArgs s_Near_init) (defBody s_Near_init) (defScope s_Near_init) .none kV8 dc8 pm8 an8 cd8 ct8), sl8⟩) (c8 : PySem.W.codeIn K cd8 "Near.__init__" = true) (k8 : PySem.W.keepIn K (.ref f8) = true) (i8 : PySem.W.isFn K (.ref f8) = true)
    {oc9 kV9 dc9 pm9 cd9 ct9 : Value} {od9 an9 : Option Addr} {sl9 : Array (Option Value)} (l9 : K.lookup f9 = some ⟨oc9, od9, .func (PySem.W.fnOf "__init__" "Nth.__init__" (defArgs s_Nth_init) (defBody s_Nth_init) (defScope s_Nth_init) .none kV9 dc9 pm9 an9 cd9 ct9), sl9⟩) (c9 : PySem.W.codeIn K cd9 "Nth.__init__" = true) (k9 : PySem.W.keepIn K (.ref f9) = true) (i9 : PySem.W.isFn K (.ref f9) = true)
    {oc10 kV10 dc10 pm10 cd10 ct10 : Value} {od10 an10 : Option Addr} {sl10 : Array (Option Value)} (l10 : K.lookup f10 = some ⟨oc10, od10, .func (PySem.W.fnOf "__init__" "LastOne.__init__" (defArgs s_LastOne_init) (defBody s_LastOne_init) (defScope s_LastOne_init) .none kV10 dc10 pm10 an10 cd10 ct10), sl10⟩) (c10 : PySem.W.codeIn K cd10 "LastOne.__init__" = true) (k10 : PySem.W.keepIn K (.ref f10) = true) (i10 : PySem.W.isFn K (.ref f10) = true)
    {oc11 kV11 dc11 pm11 cd11 ct11 : Value} {od11 an11 : Option Addr} {sl11 : Array (Option Value)} (l11 : K.lookup f11 = some ⟨oc11, od11, .func (PySem.W.fnOf "__init__" "Weekdays.__init__" (defArgs s_Weekdays_init) (defBody s_Weekdays_init) (defScope s_Weekdays_init) .none kV11 dc11 pm11 an11 cd11 ct11), sl11⟩) (c11 : PySem.W.codeIn K cd11 "Weekdays.__init__" = true) (k11 : PySem.W.keepIn K (.ref f11) = true) (i11 : PySem.W.isFn K (.ref f11) = true)
    {f12 : Addr} {oc12 kV12 dc12 pm12 cd12 ct12 : Value} {od12 an12 : Option Addr} {sl12 : Array (Option Value)} (a12 : PySem.W.nsIn K mainGlobals "number_in_marks" = some (some (.ref f12))) (l12 : K.lookup f12 = some ⟨oc12, od12, .func (PySem.W.fnOf "number_in" "number_in" (defArgs s_number_in_marks) (defBody s_number_in_marks) (defScope s_number_in_marks) .none kV12 dc12 pm12 an12 cd12 ct12), sl12⟩) (c12 : PySem.W.codeIn K cd12 "number_in" = true) (k12 : PySem.W.keepIn K (.ref f12) = true)
    {f13 : Addr} {oc13 kV13 dc13 pm13 cd13 ct13 : Value} {od13 an13 : Option Addr} {sl13 : Array (Option Value)} (a13 : PySem.W.nsIn K mainGlobals "day_mark" = some (some (.ref f13))) (l13 : K.lookup f13 = some ⟨oc13, od13, .func (PySem.W.fnOf "day_mark" "day_mark" (defArgs s_day_mark) (defBody s_day_mark) (defScope s_day_mark) .none kV13 dc13 pm13 an13 cd13 ct13), sl13⟩) (c13 : PySem.W.codeIn K cd13 "day_mark" = true) (k13 : PySem.W.keepIn K (.ref f13) = true)
    {f14 : Addr} {oc14 kV14 dc14 pm14 cd14 ct14 : Value} {od14 an14 : Option Addr} {sl14 : Array (Option Value)} (a14 : PySem.W.nsIn K mainGlobals "weekday_mark" = some (some (.ref f14))) (l14 : K.lookup f14 = some ⟨oc14, od14, .func (PySem.W.fnOf "weekday_mark" "weekday_mark" (defArgs s_weekday_mark) (defBody s_weekday_mark) (defScope s_weekday_mark) .none kV14 dc14 pm14 an14 cd14 ct14), sl14⟩) (c14 : PySem.W.codeIn K cd14 "weekday_mark" = true) (k14 : PySem.W.keepIn K (.ref f14) = true)
    {f15 : Addr} {oc15 kV15 dc15 pm15 cd15 ct15 : Value} {od15 an15 : Option Addr} {sl15 : Array (Option Value)} (a15 : PySem.W.nsIn K mainGlobals "items_of" = some (some (.ref f15))) (l15 : K.lookup f15 = some ⟨oc15, od15, .func (PySem.W.fnOf "items_of" "items_of" (defArgs s_items_of) (defBody s_items_of) (defScope s_items_of) .none kV15 dc15 pm15 an15 cd15 ct15), sl15⟩) (c15 : PySem.W.codeIn K cd15 "items_of" = true) (k15 : PySem.W.keepIn K (.ref f15) = true)
    {f16 : Addr} {oc16 kV16 dc16 pm16 cd16 ct16 : Value} {od16 an16 : Option Addr} {sl16 : Array (Option Value)} (a16 : PySem.W.nsIn K mainGlobals "plain_item" = some (some (.ref f16))) (l16 : K.lookup f16 = some ⟨oc16, od16, .func (PySem.W.fnOf "plain_item" "plain_item" (defArgs s_plain_item) (defBody s_plain_item) (defScope s_plain_item) .none kV16 dc16 pm16 an16 cd16 ct16), sl16⟩) (c16 : PySem.W.codeIn K cd16 "plain_item" = true) (k16 : PySem.W.keepIn K (.ref f16) = true)
    {f17 : Addr} {oc17 kV17 dc17 pm17 cd17 ct17 : Value} {od17 an17 : Option Addr} {sl17 : Array (Option Value)} (a17 : PySem.W.nsIn K mainGlobals "read_items" = some (some (.ref f17))) (l17 : K.lookup f17 = some ⟨oc17, od17, .func (PySem.W.fnOf "read_items" "read_items" (defArgs s_read_items) (defBody s_read_items) (defScope s_read_items) .none kV17 dc17 pm17 an17 cd17 ct17), sl17⟩) (c17 : PySem.W.codeIn K cd17 "read_items" = true) (k17 : PySem.W.keepIn K (.ref f17) = true)
    {f18 : Addr} {oc18 kV18 dc18 pm18 cd18 ct18 : Value} {od18 an18 : Option Addr} {sl18 : Array (Option Value)} (a18 : PySem.W.nsIn K mainGlobals "read_days" = some (some (.ref f18))) (l18 : K.lookup f18 = some ⟨oc18, od18, .func (PySem.W.fnOf "read_days" "read_days" (defArgs s_read_days) (defBody s_read_days) (defScope s_read_days) .none kV18 dc18 pm18 an18 cd18 ct18), sl18⟩) (c18 : PySem.W.codeIn K cd18 "read_days" = true) (k18 : PySem.W.keepIn K (.ref f18) = true)
    {f19 : Addr} {oc19 kV19 dc19 pm19 cd19 ct19 : Value} {od19 an19 : Option Addr} {sl19 : Array (Option Value)} (a19 : PySem.W.nsIn K mainGlobals "read_weekdays" = some (some (.ref f19))) (l19 : K.lookup f19 = some ⟨oc19, od19, .func (PySem.W.fnOf "read_weekdays" "read_weekdays" (defArgs s_read_weekdays) (defBody s_read_weekdays) (defScope s_read_weekdays) .none kV19 dc19 pm19 an19 cd19 ct19), sl19⟩) (c19 : PySem.W.codeIn K cd19 "read_weekdays" = true) (k19 : PySem.W.keepIn K (.ref f19) = true)
    {f20 : Addr} {oc20 kV20 dc20 pm20 cd20 ct20 : Value} {od20 an20 : Option Addr} {sl20 : Array (Option Value)} (a20 : PySem.W.nsIn K mainGlobals "_law_cell_at" = some (some (.ref f20))) (l20 : K.lookup f20 = some ⟨oc20, od20, .func (PySem.W.fnOf "_law_cell_at" "_law_cell_at" (defArgs s_law_cell_at) (defBody s_law_cell_at) (defScope s_law_cell_at) .none kV20 dc20 pm20 an20 cd20 ct20), sl20⟩) (c20 : PySem.W.codeIn K cd20 "_law_cell_at" = true) (k20 : PySem.W.keepIn K (.ref f20) = true)
    {f21 : Addr} {oc21 kV21 dc21 pm21 cd21 ct21 : Value} {od21 an21 : Option Addr} {sl21 : Array (Option Value)} (a21 : PySem.W.nsIn K mainGlobals "_law_stir" = some (some (.ref f21))) (l21 : K.lookup f21 = some ⟨oc21, od21, .func (PySem.W.fnOf "_law_stir" "_law_stir" (defArgs s_law_stir) (defBody s_law_stir) (defScope s_law_stir) .none kV21 dc21 pm21 an21 cd21 ct21), sl21⟩) (c21 : PySem.W.codeIn K cd21 "_law_stir" = true) (k21 : PySem.W.keepIn K (.ref f21) = true)
    {f22 : Addr} {oc22 kV22 dc22 pm22 cd22 ct22 : Value} {od22 an22 : Option Addr} {sl22 : Array (Option Value)} (a22 : PySem.W.nsIn K mainGlobals "_law_digits" = some (some (.ref f22))) (l22 : K.lookup f22 = some ⟨oc22, od22, .func (PySem.W.fnOf "_law_digits" "_law_digits" (defArgs s_law_digits) (defBody s_law_digits) (defScope s_law_digits) .none kV22 dc22 pm22 an22 cd22 ct22), sl22⟩) (c22 : PySem.W.codeIn K cd22 "_law_digits" = true) (k22 : PySem.W.keepIn K (.ref f22) = true)
    {f23 : Addr} {oc23 kV23 dc23 pm23 cd23 ct23 : Value} {od23 an23 : Option Addr} {sl23 : Array (Option Value)} (a23 : PySem.W.nsIn K mainGlobals "_law_whole" = some (some (.ref f23))) (l23 : K.lookup f23 = some ⟨oc23, od23, .func (PySem.W.fnOf "_law_whole" "_law_whole" (defArgs s_law_whole) (defBody s_law_whole) (defScope s_law_whole) .none kV23 dc23 pm23 an23 cd23 ct23), sl23⟩) (c23 : PySem.W.codeIn K cd23 "_law_whole" = true) (k23 : PySem.W.keepIn K (.ref f23) = true)
    {f24 : Addr} {oc24 kV24 dc24 pm24 cd24 ct24 : Value} {od24 an24 : Option Addr} {sl24 : Array (Option Value)} (a24 : PySem.W.nsIn K mainGlobals "_law_right" = some (some (.ref f24))) (l24 : K.lookup f24 = some ⟨oc24, od24, .func (PySem.W.fnOf "_law_right" "_law_right" (defArgs s_law_right) (defBody s_law_right) (defScope s_law_right) .none kV24 dc24 pm24 an24 cd24 ct24), sl24⟩) (c24 : PySem.W.codeIn K cd24 "_law_right" = true) (k24 : PySem.W.keepIn K (.ref f24) = true)
    {f25 : Addr} {oc25 kV25 dc25 pm25 cd25 ct25 : Value} {od25 an25 : Option Addr} {sl25 : Array (Option Value)} (a25 : PySem.W.nsIn K mainGlobals "_law_wrong" = some (some (.ref f25))) (l25 : K.lookup f25 = some ⟨oc25, od25, .func (PySem.W.fnOf "_law_wrong" "_law_wrong" (defArgs s_law_wrong) (defBody s_law_wrong) (defScope s_law_wrong) .none kV25 dc25 pm25 an25 cd25 ct25), sl25⟩) (c25 : PySem.W.codeIn K cd25 "_law_wrong" = true) (k25 : PySem.W.keepIn K (.ref f25) = true)
    {f26 : Addr} {oc26 kV26 dc26 pm26 cd26 ct26 : Value} {od26 an26 : Option Addr} {sl26 : Array (Option Value)} (a26 : PySem.W.nsIn K mainGlobals "_law_items" = some (some (.ref f26))) (l26 : K.lookup f26 = some ⟨oc26, od26, .func (PySem.W.fnOf "_law_items" "_law_items" (defArgs s_law_items) (defBody s_law_items) (defScope s_law_items) .none kV26 dc26 pm26 an26 cd26 ct26), sl26⟩) (c26 : PySem.W.codeIn K cd26 "_law_items" = true) (k26 : PySem.W.keepIn K (.ref f26) = true)
    {f27 : Addr} {oc27 kV27 dc27 pm27 cd27 ct27 : Value} {od27 an27 : Option Addr} {sl27 : Array (Option Value)} (a27 : PySem.W.nsIn K mainGlobals "_law_is_mark" = some (some (.ref f27))) (l27 : K.lookup f27 = some ⟨oc27, od27, .func (PySem.W.fnOf "_law_is_mark" "_law_is_mark" (defArgs s_law_is_mark) (defBody s_law_is_mark) (defScope s_law_is_mark) .none kV27 dc27 pm27 an27 cd27 ct27), sl27⟩) (c27 : PySem.W.codeIn K cd27 "_law_is_mark" = true) (k27 : PySem.W.keepIn K (.ref f27) = true)
    {f28 : Addr} {oc28 kV28 dc28 pm28 cd28 ct28 : Value} {od28 an28 : Option Addr} {sl28 : Array (Option Value)} (a28 : PySem.W.nsIn K mainGlobals "_law_due" = some (some (.ref f28))) (l28 : K.lookup f28 = some ⟨oc28, od28, .func (PySem.W.fnOf "_law_due" "_law_due" (defArgs s_law_due) (defBody s_law_due) (defScope s_law_due) .none kV28 dc28 pm28 an28 cd28 ct28), sl28⟩) (c28 : PySem.W.codeIn K cd28 "_law_due" = true) (k28 : PySem.W.keepIn K (.ref f28) = true)
    {f29 : Addr} {oc29 kV29 dc29 pm29 cd29 ct29 : Value} {od29 an29 : Option Addr} {sl29 : Array (Option Value)} (a29 : PySem.W.nsIn K mainGlobals "_law_told" = some (some (.ref f29))) (l29 : K.lookup f29 = some ⟨oc29, od29, .func (PySem.W.fnOf "_law_told" "_law_told" (defArgs s_law_told) (defBody s_law_told) (defScope s_law_told) .none kV29 dc29 pm29 an29 cd29 ct29), sl29⟩) (c29 : PySem.W.codeIn K cd29 "_law_told" = true) (k29 : PySem.W.keepIn K (.ref f29) = true)
    {f30 : Addr} {oc30 kV30 dc30 pm30 cd30 ct30 : Value} {od30 an30 : Option Addr} {sl30 : Array (Option Value)} (a30 : PySem.W.nsIn K mainGlobals "_law_longest" = some (some (.ref f30))) (l30 : K.lookup f30 = some ⟨oc30, od30, .func (PySem.W.fnOf "_law_longest" "_law_longest" (defArgs s_law_longest) (defBody s_law_longest) (defScope s_law_longest) .none kV30 dc30 pm30 an30 cd30 ct30), sl30⟩) (c30 : PySem.W.codeIn K cd30 "_law_longest" = true) (k30 : PySem.W.keepIn K (.ref f30) = true)
    {f31 : Addr} {oc31 kV31 dc31 pm31 cd31 ct31 : Value} {od31 an31 : Option Addr} {sl31 : Array (Option Value)} (a31 : PySem.W.nsIn K mainGlobals "law" = some (some (.ref f31))) (l31 : K.lookup f31 = some ⟨oc31, od31, .func (PySem.W.fnOf "law" "law" (defArgs s_law) (defBody s_law) (defScope s_law) .none kV31 dc31 pm31 an31 cd31 ct31), sl31⟩) (c31 : PySem.W.codeIn K cd31 "law" = true) (k31 : PySem.W.keepIn K (.ref f31) = true)
    (z0 : PySem.W.nsIn K mainGlobals "len" = some none)
    (z1 : PySem.W.nsIn K mainGlobals "int" = some none)
    (z2 : PySem.W.nsIn K mainGlobals "list" = some none)
    (z3 : PySem.W.nsIn K mainGlobals "range" = some none)
    (z4 : PySem.W.nsIn K mainGlobals "isinstance" = some none)
    (z5 : PySem.W.nsIn K mainGlobals "str" = some none)
    (z6 : PySem.W.nsIn K mainGlobals "enumerate" = some none)
    (z7 : PySem.W.nsIn K mainGlobals "min" = some none)
    (z8 : PySem.W.nsIn K mainGlobals "abs" = some none)
    (z9 : PySem.W.nsIn K mainGlobals "bool" = some none)
    (z10 : PySem.W.nsIn K mainGlobals "ValueError" = some none)
    {u0 : Tok} (y0 : PySem.W.nsIn K mainGlobals "FIGURES_wholes" = some (some (.str "0123456789" u0)))
    {u1 : Tok} (y1 : PySem.W.nsIn K mainGlobals "MOST_STRIDE" = some (some (.int 99 u1)))
    {u2 : Tok} (y2 : PySem.W.nsIn K mainGlobals "MOST_SIGNS_fields" = some (some (.int 300 u2)))
    {u3 : Tok} (y3 : PySem.W.nsIn K mainGlobals "MOST_ITEMS_fields" = some (some (.int 40 u3)))
    {u4 : Tok} (y4 : PySem.W.nsIn K mainGlobals "FIGURES_marks" = some (some (.str "0123456789" u4)))
    {u5 : Tok} (y5 : PySem.W.nsIn K mainGlobals "MOST_SIGNS_marks" = some (some (.int 300 u5)))
    {u6 : Tok} (y6 : PySem.W.nsIn K mainGlobals "MOST_ITEMS_marks" = some (some (.int 40 u6)))
    {u7 : Tok} (y7 : PySem.W.nsIn K mainGlobals "MOST_MARKS" = some (some (.int 20 u7)))
    {a_NoField : Addr} (n_NoField : PySem.W.nsIn K mainGlobals "NoField" = some (some (.ref a_NoField)))
    (e0_NoField : PySem.W.keepIn K (.ref a_NoField) = true)
    (e1_NoField : PySem.W.subIn K (.ref a_NoField) (.type "BaseException") = some true)
    (e2_NoField : PySem.W.typeIn K (.ref a_NoField) = some (.type "type"))
    (e3_NoField : PySem.W.hasDictIn K a_NoField = true)
    (e4_NoField : PySem.W.findIn K (.ref a_NoField) "__getattribute__" = some (some (.builtin "BaseException.__getattribute__")))
    (e5_NoField : PySem.W.findIn K (.ref a_NoField) "__getattr__" = some none)
    (e6_NoField : PySem.W.findIn K (.ref a_NoField) "__class__" = some (some (.builtin "object.__class__")))
    (e7_NoField : PySem.W.mroIn K a_NoField (.type "object") = some true)
    {a_FieldError : Addr} (n_FieldError : PySem.W.nsIn K mainGlobals "FieldError" = some (some (.ref a_FieldError)))
    (e0_FieldError : PySem.W.keepIn K (.ref a_FieldError) = true)
    (e1_FieldError : PySem.W.subIn K (.ref a_FieldError) (.type "BaseException") = some true)
    (e2_FieldError : PySem.W.typeIn K (.ref a_FieldError) = some (.type "type"))
    (e3_FieldError : PySem.W.hasDictIn K a_FieldError = true)
    (e4_FieldError : PySem.W.findIn K (.ref a_FieldError) "__getattribute__" = some (some (.builtin "BaseException.__getattribute__")))
    (e5_FieldError : PySem.W.findIn K (.ref a_FieldError) "__getattr__" = some none)
    (e6_FieldError : PySem.W.findIn K (.ref a_FieldError) "__class__" = some (some (.builtin "object.__class__")))
    (e7_FieldError : PySem.W.mroIn K a_FieldError (.type "object") = some true)
    {a_NoBook : Addr} (n_NoBook : PySem.W.nsIn K mainGlobals "NoBook" = some (some (.ref a_NoBook)))
    {a_NoClock : Addr} (n_NoClock : PySem.W.nsIn K mainGlobals "NoClock" = some (some (.ref a_NoClock)))
    {a_NoDay : Addr} (n_NoDay : PySem.W.nsIn K mainGlobals "NoDay" = some (some (.ref a_NoDay)))
    {a_NoMoment : Addr} (n_NoMoment : PySem.W.nsIn K mainGlobals "NoMoment" = some (some (.ref a_NoMoment)))
    {a_NoName : Addr} (n_NoName : PySem.W.nsIn K mainGlobals "NoName" = some (some (.ref a_NoName)))
    {a_NoRow : Addr} (n_NoRow : PySem.W.nsIn K mainGlobals "NoRow" = some (some (.ref a_NoRow)))
    {a_NoWord : Addr} (n_NoWord : PySem.W.nsIn K mainGlobals "NoWord" = some (some (.ref a_NoWord)))
    (ecn : PySem.W.specialIn K (.builtin "object.__class__") "__get__" = some (some (.builtin "getset_descriptor.__get__"))) (ect : PySem.W.takesIn K (.builtin "object.__class__") = some true)
    (f_nf : PySem.W.subIn K (.ref a_NoField) (.ref a_NoField) = some true)
    (f_sub : PySem.W.subIn K (.ref a_NoField) (.ref a_FieldError) = some true)
    (f_ve : PySem.W.kitOne K (.ref a_NoField) (.type "ValueError") = some true)
    (f_not : PySem.W.kitAny K (.ref a_NoField) [.ref a_NoBook, .ref a_NoClock, .ref a_NoDay, .ref a_NoMoment, .ref a_NoName, .ref a_NoRow, .ref a_NoWord] = some false)
    (xo_NoField : oexIn K a_NoField = true) (xs_NoField : PySem.W.findIn K (.ref a_NoField) "__setattr__" = some (some (.builtin "object.__setattr__"))) (xn_NoField : PySem.W.findIn K (.ref a_NoField) "at" = some none)
    {xf_NoField : Addr} (xa_NoField : PySem.W.findIn K (.ref a_NoField) "__init__" = some (some (.ref xf_NoField))) (xt_NoField : PySem.W.typeIn K (.ref xf_NoField) = some (.type "function"))
    {xoc_NoField xkV_NoField xdc_NoField xpm_NoField xcd_NoField xct_NoField : Value} {xod_NoField xan_NoField : Option Addr} {xsl_NoField : Array (Option Value)} (xl_NoField : K.lookup xf_NoField = some ⟨xoc_NoField, xod_NoField, .func (PySem.W.fnOf "__init__" "NoField.__init__" (defArgs s_NoField_init) (defBody s_NoField_init) (defScope s_NoField_init) .none xkV_NoField xdc_NoField xpm_NoField xan_NoField xcd_NoField xct_NoField), xsl_NoField⟩) (xc_NoField : PySem.W.codeIn K xcd_NoField "NoField.__init__" = true) (xk_NoField : PySem.W.keepIn K (.ref xf_NoField) = true)
    (vr : PySem.W.readsIn K a_FieldError (.type "type") = true) (vg : PySem.W.specialIn K (.ref a_FieldError) "__getattribute__" = some (some (.builtin "type.__getattribute__"))) (vi : PySem.W.findCls K (.ref a_FieldError) (.type "type") "__init__" = some (.val (.builtin "ValueError.__init__")))
    : ∃ fd : FuncData, (∀ (s : Shared) (u : Value), BindsTo s fd ⟨[u], []⟩ [("_law_script", u)]) ∧ ∀ base : Heap, K.In base → base.Ns mainGlobals mg → FnOk P w K mg base (L2N.CX P w) 11 fa fd ["_law_script"] (spD K 1 phiLaw) := by
  have T_only_figures := def_at (x := "only_figures") (st := s_only_figures) (ps := ["signs"]) X G a0 l0 c0 k0 (fun _ _ _ _ _ _ us hl => match us, hl with | [_], _ => rfl)
  have T_mask_of := def_at (x := "mask_of") (st := s_mask_of) (ps := ["numbers"]) X G a1 l1 c1 k1 (fun _ _ _ _ _ _ us hl => match us, hl with | [_], _ => rfl)
  have T_number_in_fields := def_at2 (x := "number_in") (y := "number_in_fields") (st := s_number_in_fields) (ps := ["text", "low", "high"]) X G a2 l2 c2 k2 (fun _ _ _ _ _ _ us hl => match us, hl with | [_, _, _], _ => rfl)
  have T_span_in := def_at (x := "span_in") (st := s_span_in) (ps := ["text", "low", "high"]) X G a3 l3 c3 k3 (fun _ _ _ _ _ _ us hl => match us, hl with | [_, _, _], _ => rfl)
  have T_item_mask := def_at (x := "item_mask") (st := s_item_mask) (ps := ["item", "low", "high"]) X G a4 l4 c4 k4 (fun _ _ _ _ _ _ us hl => match us, hl with | [_, _, _], _ => rfl)
  have T_read_field := def_at (x := "read_field") (st := s_read_field) (ps := ["text", "low", "high"]) X G a5 l5 c5 k5 (fun _ _ _ _ _ _ us hl => match us, hl with | [_, _, _], _ => rfl)
  have T_number_in_marks := def_at2 (x := "number_in") (y := "number_in_marks") (st := s_number_in_marks) (ps := ["text", "low", "high"]) X G a12 l12 c12 k12 (fun _ _ _ _ _ _ us hl => match us, hl with | [_, _, _], _ => rfl)
  have T_day_mark := def_at (x := "day_mark") (st := s_day_mark) (ps := ["item"]) X G a13 l13 c13 k13 (fun _ _ _ _ _ _ us hl => match us, hl with | [_], _ => rfl)
  have T_weekday_mark := def_at (x := "weekday_mark") (st := s_weekday_mark) (ps := ["item"]) X G a14 l14 c14 k14 (fun _ _ _ _ _ _ us hl => match us, hl with | [_], _ => rfl)
  have T_items_of := def_at (x := "items_of") (st := s_items_of) (ps := ["text"]) X G a15 l15 c15 k15 (fun _ _ _ _ _ _ us hl => match us, hl with | [_], _ => rfl)
  have T_plain_item := def_at (x := "plain_item") (st := s_plain_item) (ps := ["item", "at", "low", "high"]) X G a16 l16 c16 k16 (fun _ _ _ _ _ _ us hl => match us, hl with | [_, _, _, _], _ => rfl)
  have T_read_items := def_at (x := "read_items") (st := s_read_items) (ps := ["text", "marked", "low", "high"]) X G a17 l17 c17 k17 (fun _ _ _ _ _ _ us hl => match us, hl with | [_, _, _, _], _ => rfl)
  have T_read_days := def_at (x := "read_days") (st := s_read_days) (ps := ["text"]) X G a18 l18 c18 k18 (fun _ _ _ _ _ _ us hl => match us, hl with | [_], _ => rfl)
  have T_read_weekdays := def_at (x := "read_weekdays") (st := s_read_weekdays) (ps := ["text"]) X G a19 l19 c19 k19 (fun _ _ _ _ _ _ us hl => match us, hl with | [_], _ => rfl)
  have T_law_cell_at := def_at (x := "_law_cell_at") (st := s_law_cell_at) (ps := ["_law_script", "_law_k"]) X G a20 l20 c20 k20 (fun _ _ _ _ _ _ us hl => match us, hl with | [_, _], _ => rfl)
  have T_law_stir := def_at (x := "_law_stir") (st := s_law_stir) (ps := ["_law_number"]) X G a21 l21 c21 k21 (fun _ _ _ _ _ _ us hl => match us, hl with | [_], _ => rfl)
  have T_law_digits := def_at (x := "_law_digits") (st := s_law_digits) (ps := ["_law_cell", "_law_sizes", "_law_mixed"]) X G a22 l22 c22 k22 (fun _ _ _ _ _ _ us hl => match us, hl with | [_, _, _], _ => rfl)
  have T_law_whole := def_at (x := "_law_whole") (st := s_law_whole) (ps := ["_law_found"]) X G a23 l23 c23 k23 (fun _ _ _ _ _ _ us hl => match us, hl with | [_], _ => rfl)
  have T_law_right := def_at (x := "_law_right") (st := s_law_right) (ps := ["_law_turn", "_law_week", "_law_mark"]) X G a24 l24 c24 k24 (fun _ _ _ _ _ _ us hl => match us, hl with | [_, _, _], _ => rfl)
  have T_law_wrong := def_at (x := "_law_wrong") (st := s_law_wrong) (ps := ["_law_turn", "_law_week"]) X G a25 l25 c25 k25 (fun _ _ _ _ _ _ us hl => match us, hl with | [_, _], _ => rfl)
  have T_law_items := def_at (x := "_law_items") (st := s_law_items) (ps := ["_law_cell", "_law_turns", "_law_week", "_law_mixed"]) X G a26 l26 c26 k26 (fun _ _ _ _ _ _ us hl => match us, hl with | [_, _, _, _], _ => rfl)
  have T_law_is_mark := def_at (x := "_law_is_mark") (st := s_law_is_mark) (ps := ["_law_text"]) X G a27 l27 c27 k27 (fun _ _ _ _ _ _ us hl => match us, hl with | [_], _ => rfl)
  have T_law_due := def_at (x := "_law_due") (st := s_law_due) (ps := ["_law_items_here"]) X G a28 l28 c28 k28 (fun _ _ _ _ _ _ us hl => match us, hl with | [_], _ => rfl)
  have T_law_told := def_at (x := "_law_told") (st := s_law_told) (ps := ["_law_text", "_law_week"]) X G a29 l29 c29 k29 (fun _ _ _ _ _ _ us hl => match us, hl with | [_, _], _ => rfl)
  have T_law_longest := def_at (x := "_law_longest") (st := s_law_longest) (ps := ["_law_week"]) X G a30 l30 c30 k30 (fun _ _ _ _ _ _ us hl => match us, hl with | [_], _ => rfl)
  have m_len := PySem.W.mg_none_of X G z0
  have m_int := PySem.W.mg_none_of X G z1
  have m_list := PySem.W.mg_none_of X G z2
  have m_range := PySem.W.mg_none_of X G z3
  have m_isinstance := PySem.W.mg_none_of X G z4
  have m_str := PySem.W.mg_none_of X G z5
  have m_enumerate := PySem.W.mg_none_of X G z6
  have m_min := PySem.W.mg_none_of X G z7
  have m_abs := PySem.W.mg_none_of X G z8
  have m_bool := PySem.W.mg_none_of X G z9
  have m_ValueError := PySem.W.mg_none_of X G z10
  have g_FIGURES_wholes : GlD K mg "FIGURES_wholes" d_FIGURES_wholes := gl_tx (by decide +kernel) X G y0
  have g_MOST_STRIDE : GlD K mg "MOST_STRIDE" d_MOST_STRIDE := gl_int X G y1
  have g_MOST_SIGNS_fields : GlD K mg "MOST_SIGNS_fields" d_MOST_SIGNS_fields := gl_int X G y2
  have g_MOST_ITEMS_fields : GlD K mg "MOST_ITEMS_fields" d_MOST_ITEMS_fields := gl_int X G y3
  have g_FIGURES_marks : GlD K mg "FIGURES_marks" d_FIGURES_marks := gl_tx (by decide +kernel) X G y4
  have g_MOST_SIGNS_marks : GlD K mg "MOST_SIGNS_marks" d_MOST_SIGNS_marks := gl_int X G y5
  have g_MOST_ITEMS_marks : GlD K mg "MOST_ITEMS_marks" d_MOST_ITEMS_marks := gl_int X G y6
  have g_MOST_MARKS : GlD K mg "MOST_MARKS" d_MOST_MARKS := gl_int X G y7
  have o_Numbers : ObC K mg "Numbers" a_Numbers ["mask"] := ⟨PySem.W.mg_of X G n_Numbers, ⟨oa_Numbers, ob_Numbers, oc_Numbers, od_Numbers⟩, fun f hf => by
    simp only [List.mem_cons, List.not_mem_nil, or_false] at hf
    rcases hf with rfl
    · exact of_Numbers_mask⟩
  have o_Last : ObC K mg "Last" a_Last ["back"] := ⟨PySem.W.mg_of X G n_Last, ⟨oa_Last, ob_Last, oc_Last, od_Last⟩, fun f hf => by
    simp only [List.mem_cons, List.not_mem_nil, or_false] at hf
    rcases hf with rfl
    · exact of_Last_back⟩
  have o_Near : ObC K mg "Near" a_Near ["day"] := ⟨PySem.W.mg_of X G n_Near, ⟨oa_Near, ob_Near, oc_Near, od_Near⟩, fun f hf => by
    simp only [List.mem_cons, List.not_mem_nil, or_false] at hf
    rcases hf with rfl
    · exact of_Near_day⟩
  have o_Nth : ObC K mg "Nth" a_Nth ["weekday", "many"] := ⟨PySem.W.mg_of X G n_Nth, ⟨oa_Nth, ob_Nth, oc_Nth, od_Nth⟩, fun f hf => by
    simp only [List.mem_cons, List.not_mem_nil, or_false] at hf
    rcases hf with rfl | rfl
    · exact of_Nth_weekday
    · exact of_Nth_many⟩
  have o_LastOne : ObC K mg "LastOne" a_LastOne ["weekday"] := ⟨PySem.W.mg_of X G n_LastOne, ⟨oa_LastOne, ob_LastOne, oc_LastOne, od_LastOne⟩, fun f hf => by
    simp only [List.mem_cons, List.not_mem_nil, or_false] at hf
    rcases hf with rfl
    · exact of_LastOne_weekday⟩
  have o_Weekdays : ObC K mg "Weekdays" a_Weekdays ["mask"] := ⟨PySem.W.mg_of X G n_Weekdays, ⟨oa_Weekdays, ob_Weekdays, oc_Weekdays, od_Weekdays⟩, fun f hf => by
    simp only [List.mem_cons, List.not_mem_nil, or_false] at hf
    rcases hf with rfl
    · exact of_Weekdays_mask⟩
  have o_LastWork : ObC K mg "LastWork" a_LastWork [] := ⟨PySem.W.mg_of X G n_LastWork, ⟨oa_LastWork, ob_LastWork, oc_LastWork, od_LastWork⟩, fun _ hf => by cases hf⟩
  have o_Mark : ObC K mg "Mark" a_Mark [] := ⟨PySem.W.mg_of X G n_Mark, ⟨oa_Mark, ob_Mark, oc_Mark, od_Mark⟩, fun _ hf => by cases hf⟩
  have k_LastWork : Mk0 K a_LastWork := ⟨km_LastWork, ki_LastWork, kk_LastWork, kt_LastWork⟩
  have x_NoField : ExCls K mg "NoField" a_NoField := exCls_mk X G n_NoField e0_NoField e1_NoField e2_NoField e3_NoField e4_NoField e5_NoField e6_NoField e7_NoField ecn ect
  have x_FieldError : ExCls K mg "FieldError" a_FieldError := exCls_mk X G n_FieldError e0_FieldError e1_FieldError e2_FieldError e3_FieldError e4_FieldError e5_FieldError e6_FieldError e7_FieldError ecn ect
  have w_NoBook : mg "NoBook" = some (.ref a_NoBook) := PySem.W.mg_of X G n_NoBook
  have w_NoClock : mg "NoClock" = some (.ref a_NoClock) := PySem.W.mg_of X G n_NoClock
  have w_NoDay : mg "NoDay" = some (.ref a_NoDay) := PySem.W.mg_of X G n_NoDay
  have w_NoMoment : mg "NoMoment" = some (.ref a_NoMoment) := PySem.W.mg_of X G n_NoMoment
  have w_NoName : mg "NoName" = some (.ref a_NoName) := PySem.W.mg_of X G n_NoName
  have w_NoRow : mg "NoRow" = some (.ref a_NoRow) := PySem.W.mg_of X G n_NoRow
  have w_NoWord : mg "NoWord" = some (.ref a_NoWord) := PySem.W.mg_of X G n_NoWord
  exact law_mk X G hfa a31 l31 c31 k31 (fun _ _ _ _ _ _ us hl => match us, hl with | [_], _ => rfl) (fun s v => .of_eq rfl) fun fd T base => by
    have XF_NoField := fun_mk (st := s_NoField_init) xl_NoField xc_NoField xk_NoField
    have i_NoField : ExI P w K mg base "NoField" a_NoField "at" := exI_mk (sF := "FieldError") x_NoField (oex_mk x_NoField xo_NoField xs_NoField) ⟨PySem.W.mg_of X G n_FieldError, vr, vg, vi⟩ xn_NoField xa_NoField xt_NoField XF_NoField sc_NoField_init rfl rfl (XF_NoField.binds (fun _ _ _ _ _ _ us hl => match us, hl with | [_, _], _ => rfl)) (fun _ => ⟨_, rfl⟩)
    have cq_law_whole : FnQ P w K mg base "_law_whole" 1 1 phi_wholeQ := whole_okQ T_law_whole sc_law_whole rfl (by decide +kernel) rfl m_isinstance m_int m_bool
    have c_only_figures := ok_only_figures (P := P) (w := w) (base := base) T_only_figures g_FIGURES_wholes
    have c_mask_of := ok_mask_of (P := P) (w := w) (base := base) T_mask_of
    have c_number_in_fields := ok_number_in_fields (P := P) (w := w) (base := base) T_number_in_fields c_only_figures m_len m_int
    have c_span_in := ok_span_in (P := P) (w := w) (base := base) T_span_in c_number_in_fields m_len
    have c_item_mask := ok_item_mask (P := P) (w := w) (base := base) T_item_mask c_span_in c_mask_of c_number_in_fields c_only_figures m_len m_list m_range g_MOST_STRIDE
    have c_read_field : FnC P w K mg base "read_field" 5 3 (phi_readF a_NoField) := ok_read_field (P := P) (w := w) (base := base) T_read_field c_item_mask m_isinstance m_str m_len m_enumerate g_MOST_SIGNS_fields g_MOST_ITEMS_fields x_NoField i_NoField
    have F6 := fun_mk (st := s_Numbers_init) l6 c6 k6
    have k_Numbers : MkC P w K mg base a_Numbers 1 1 [] phi_Numbers_init := ⟨_, _, ["self", "mask"], [], ⟨km_Numbers, a6, i6, kk_Numbers⟩, ok_Numbers_init F6 o_Numbers, F6.binds (fun _ _ _ _ _ _ us hl => match us, hl with | [_, _], _ => rfl), .nil⟩
    have F7 := funD_mk (st := s_Last_init) l7 c7 k7 dl7 r97 (by decide)
    have k_Last : MkC P w K mg base a_Last 1 1 [] phi_Last_init := mkC_d (x := "Last") ⟨km_Last, a7, i7, kk_Last⟩ (ok_Last_init F7 o_Last) (F7.binds1 (ps := ["self", "back"]) 2 1 (by decide) rfl (fun _ _ _ _ _ _ _ us its h1 h2 => match us, its, h1, h2 with | [_, _], [_], _, _ => ⟨_, rfl, rfl⟩))
    have k_Last_d : MkC P w K mg base a_Last 1 1 [.int 0] phi_Last_init := mkC_d (x := "Last") ⟨km_Last, a7, i7, kk_Last⟩ (ok_Last_init F7 o_Last) (F7.binds1 (ps := ["self", "back"]) 1 0 (by decide) rfl (fun _ _ _ _ _ _ _ us its h1 h2 => match us, its, h1, h2 with | [_], [_], _, _ => ⟨_, rfl, rfl⟩))
    have F8 := fun_mk (st := s_Near_init) l8 c8 k8
    have k_Near : MkC P w K mg base a_Near 1 1 [] phi_Near_init := ⟨_, _, ["self", "day"], [], ⟨km_Near, a8, i8, kk_Near⟩, ok_Near_init F8 o_Near, F8.binds (fun _ _ _ _ _ _ us hl => match us, hl with | [_, _], _ => rfl), .nil⟩
    have F9 := fun_mk (st := s_Nth_init) l9 c9 k9
    have k_Nth : MkC P w K mg base a_Nth 1 2 [] phi_Nth_init := ⟨_, _, ["self", "weekday", "many"], [], ⟨km_Nth, a9, i9, kk_Nth⟩, ok_Nth_init F9 o_Nth, F9.binds (fun _ _ _ _ _ _ us hl => match us, hl with | [_, _, _], _ => rfl), .nil⟩
    have F10 := fun_mk (st := s_LastOne_init) l10 c10 k10
    have k_LastOne : MkC P w K mg base a_LastOne 1 1 [] phi_LastOne_init := ⟨_, _, ["self", "weekday"], [], ⟨km_LastOne, a10, i10, kk_LastOne⟩, ok_LastOne_init F10 o_LastOne, F10.binds (fun _ _ _ _ _ _ us hl => match us, hl with | [_, _], _ => rfl), .nil⟩
    have F11 := fun_mk (st := s_Weekdays_init) l11 c11 k11
    have k_Weekdays : MkC P w K mg base a_Weekdays 1 1 [] phi_Weekdays_init := ⟨_, _, ["self", "mask"], [], ⟨km_Weekdays, a11, i11, kk_Weekdays⟩, ok_Weekdays_init F11 o_Weekdays, F11.binds (fun _ _ _ _ _ _ us hl => match us, hl with | [_, _], _ => rfl), .nil⟩
    have c_number_in_marks := ok_number_in_marks (P := P) (w := w) (base := base) T_number_in_marks m_len m_int g_FIGURES_marks
    have c_day_mark : FnC P w K mg base "day_mark" 3 1 (phi_marked a_Weekdays a_Numbers a_Last a_Near a_LastWork a_Nth a_LastOne a_Mark (mkF false)) := ok_day_mark (P := P) (w := w) (base := base) T_day_mark c_number_in_marks o_Last o_LastWork o_Near k_Last k_Last_d k_LastWork k_Near
    have c_weekday_mark : FnC P w K mg base "weekday_mark" 3 1 (phi_marked a_Weekdays a_Numbers a_Last a_Near a_LastWork a_Nth a_LastOne a_Mark (mkF true)) := ok_weekday_mark (P := P) (w := w) (base := base) T_weekday_mark c_number_in_marks o_LastOne o_Nth k_LastOne k_Nth m_len
    have c_items_of : FnC P w K mg base "items_of" 3 1 (phi_itemsX a_NoField) := ok_items_of (P := P) (w := w) (base := base) T_items_of m_isinstance m_str m_len g_MOST_SIGNS_marks x_NoField i_NoField
    have c_plain_item : ∀ (wk : Bool) (l : List Nat) (a : Nat), FnL P w K mg base "plain_item" 6 4 (phi_plainX a_Weekdays a_Numbers a_Last a_Near a_LastWork a_Nth a_LastOne a_Mark a_NoField wk l a) := fun wk l a => ok_plain_item (P := P) (w := w) (base := base) wk l a T_plain_item c_read_field x_NoField i_NoField f_nf
    have c_read_items : ∀ (u : Addr) (wk : Bool) (d : D) (hu : FnA P w K mg base u 3 1 (phi_marked a_Weekdays a_Numbers a_Last a_Near a_LastWork a_Nth a_LastOne a_Mark (mkF wk))), FnL P w K mg base "read_items" 7 4 (phi_readIX a_Weekdays a_Numbers a_Last a_Near a_LastWork a_Nth a_LastOne a_Mark a_NoField u wk d) := fun u wk d hu => ok_read_items (P := P) (w := w) (base := base) u wk d hu T_read_items c_items_of c_plain_item o_Mark m_range m_min m_len g_MOST_ITEMS_marks g_MOST_MARKS x_NoField i_NoField
    have c_read_days : ∀ (d : D), FnL P w K mg base "read_days" 8 1 (phi_read_days a_Weekdays a_Numbers a_Last a_Near a_LastWork a_Nth a_LastOne a_Mark a_NoField d) := fun d => ok_read_days (P := P) (w := w) (base := base) d T_read_days c_read_items c_day_mark o_Numbers k_Numbers
    have c_read_weekdays : ∀ (d : D), FnL P w K mg base "read_weekdays" 8 1 (phi_read_weekdays a_Weekdays a_Numbers a_Last a_Near a_LastWork a_Nth a_LastOne a_Mark a_NoField d) := fun d => ok_read_weekdays (P := P) (w := w) (base := base) d T_read_weekdays c_read_items c_weekday_mark o_Weekdays k_Weekdays
    have c_law_cell_at := ok_law_cell_at (P := P) (w := w) (base := base) T_law_cell_at m_len
    have c_law_stir := ok_law_stir (P := P) (w := w) (base := base) T_law_stir
    have c_law_digits := ok_law_digits (P := P) (w := w) (base := base) T_law_digits c_law_stir m_abs
    have c_law_whole := ok_law_whole (P := P) (w := w) (base := base) T_law_whole m_isinstance m_int m_bool
    have c_law_right := ok_law_right (P := P) (w := w) (base := base) T_law_right
    have c_law_wrong := ok_law_wrong (P := P) (w := w) (base := base) T_law_wrong
    have c_law_items := ok_law_items (P := P) (w := w) (base := base) T_law_items c_law_digits c_law_right c_law_wrong m_enumerate m_range
    have c_law_is_mark := ok_law_is_mark (P := P) (w := w) (base := base) T_law_is_mark
    have c_law_due : ∀ (ps : List (List Nat × Bool)), FnC P w K mg base "_law_due" 2 1 (phi_law_due ps) := fun ps => ok_law_due (P := P) (w := w) (base := base) ps T_law_due c_law_is_mark m_len m_range m_min m_int
    have c_law_told : ∀ (wk : Bool) (d : D), FnC P w K mg base "_law_told" 9 2 (phi_told wk d) := fun wk d => ok_law_told (P := P) (w := w) (base := base) wk d T_law_told c_read_days c_read_weekdays c_law_whole m_int m_isinstance m_ValueError m_list x_FieldError x_NoField w_NoBook w_NoClock w_NoDay w_NoMoment w_NoName w_NoRow w_NoWord i_NoField cq_law_whole f_sub f_ve f_not
    have c_law_longest := ok_law_longest (P := P) (w := w) (base := base) T_law_longest c_law_told
    exact ok_law T c_law_cell_at c_law_items c_law_told c_law_due c_law_longest m_int
end W38
open PySem PySem.W PyProof.Rows
set_option maxHeartbeats 0 in
theorem PySem.Challenge.cw_fivefields_k38_marks_refused_holds : PySem.Challenge.rw_fivefields_k38_marks_refused.Holds := by
  refine W38H.pre fun said => ?_
  refine W38H.head said ?hc
  k_fill
  refine PL.law_walk (l := PySem.Challenge.rw_fivefields_k38_marks_refused) (k := 11) (x := "_law_script") rfl (by kernel_rfl) ⟨rfl, by decide, by decide⟩ (fun w h Y => PySem.W.kIn_of Y) ?F
  case F =>
    intro w mg fa h KX G hmg
    refine' W38.all_mk KX G hmg ?n_Numbers ?oa_Numbers ?ob_Numbers ?oc_Numbers ?od_Numbers ?of_Numbers_mask ?n_Last ?oa_Last ?ob_Last ?oc_Last ?od_Last ?of_Last_back ?n_Near ?oa_Near ?ob_Near ?oc_Near ?od_Near ?of_Near_day ?n_Nth ?oa_Nth ?ob_Nth ?oc_Nth ?od_Nth ?of_Nth_weekday ?of_Nth_many ?n_LastOne ?oa_LastOne ?ob_LastOne ?oc_LastOne ?od_LastOne ?of_LastOne_weekday ?n_Weekdays ?oa_Weekdays ?ob_Weekdays ?oc_Weekdays ?od_Weekdays ?of_Weekdays_mask ?n_LastWork ?oa_LastWork ?ob_LastWork ?oc_LastWork ?od_LastWork ?n_Mark ?oa_Mark ?ob_Mark ?oc_Mark ?od_Mark ?km_Last ?kk_Last ?km_LastWork ?kk_LastWork ?ki_LastWork ?kt_LastWork ?km_Near ?kk_Near ?km_LastOne ?kk_LastOne ?km_Nth ?kk_Nth ?km_Numbers ?kk_Numbers ?km_Weekdays ?kk_Weekdays ?a6 ?a7 ?a8 ?a9 ?a10 ?a11 ?a0 ?l0 ?c0 ?k0 ?a1 ?l1 ?c1 ?k1 ?a2 ?l2 ?c2 ?k2 ?a3 ?l3 ?c3 ?k3 ?a4 ?l4 ?c4 ?k4 ?a5 ?l5 ?c5 ?k5 ?l6 ?c6 ?k6 ?i6 ?l7 ?c7 ?k7 ?i7 ?dl7 ?r97 ?l8 ?c8 ?k8 ?i8 ?l9 ?c9 ?k9 ?i9 ?l10 ?c10 ?k10 ?i10 ?l11 ?c11 ?k11 ?i11 ?a12 ?l12 ?c12 ?k12 ?a13 ?l13 ?c13 ?k13 ?a14 ?l14 ?c14 ?k14 ?a15 ?l15 ?c15 ?k15 ?a16 ?l16 ?c16 ?k16 ?a17 ?l17 ?c17 ?k17 ?a18 ?l18 ?c18 ?k18 ?a19 ?l19 ?c19 ?k19 ?a20 ?l20 ?c20 ?k20 ?a21 ?l21 ?c21 ?k21 ?a22 ?l22 ?c22 ?k22 ?a23 ?l23 ?c23 ?k23 ?a24 ?l24 ?c24 ?k24 ?a25 ?l25 ?c25 ?k25 ?a26 ?l26 ?c26 ?k26 ?a27 ?l27 ?c27 ?k27 ?a28 ?l28 ?c28 ?k28 ?a29 ?l29 ?c29 ?k29 ?a30 ?l30 ?c30 ?k30 ?a31 ?l31 ?c31 ?k31 ?z0 ?z1 ?z2 ?z3 ?z4 ?z5 ?z6 ?z7 ?z8 ?z9 ?z10 ?y0 ?y1 ?y2 ?y3 ?y4 ?y5 ?y6 ?y7 ?n_NoField ?e0_NoField ?e1_NoField ?e2_NoField ?e3_NoField ?e4_NoField ?e5_NoField ?e6_NoField ?e7_NoField ?n_FieldError ?e0_FieldError ?e1_FieldError ?e2_FieldError ?e3_FieldError ?e4_FieldError ?e5_FieldError ?e6_FieldError ?e7_FieldError ?n_NoBook ?n_NoClock ?n_NoDay ?n_NoMoment ?n_NoName ?n_NoRow ?n_NoWord ?ecn ?ect ?f_nf ?f_sub ?f_ve ?f_not ?xo_NoField ?xs_NoField ?xn_NoField ?xa_NoField ?xt_NoField ?xl_NoField ?xc_NoField ?xk_NoField ?vr ?vg ?vi
    (case n_Numbers => k_is); (case oa_Numbers => k_is); (case ob_Numbers => k_is); (case oc_Numbers => k_is); (case od_Numbers => k_is); (case of_Numbers_mask => k_is); (case n_Last => k_is); (case oa_Last => k_is); (case ob_Last => k_is); (case oc_Last => k_is); (case od_Last => k_is); (case of_Last_back => k_is); (case n_Near => k_is); (case oa_Near => k_is); (case ob_Near => k_is); (case oc_Near => k_is); (case od_Near => k_is); (case of_Near_day => k_is); (case n_Nth => k_is); (case oa_Nth => k_is); (case ob_Nth => k_is); (case oc_Nth => k_is); (case od_Nth => k_is); (case of_Nth_weekday => k_is); (case of_Nth_many => k_is); (case n_LastOne => k_is); (case oa_LastOne => k_is); (case ob_LastOne => k_is); (case oc_LastOne => k_is); (case od_LastOne => k_is); (case of_LastOne_weekday => k_is); (case n_Weekdays => k_is); (case oa_Weekdays => k_is); (case ob_Weekdays => k_is); (case oc_Weekdays => k_is); (case od_Weekdays => k_is); (case of_Weekdays_mask => k_is); (case n_LastWork => k_is); (case oa_LastWork => k_is); (case ob_LastWork => k_is); (case oc_LastWork => k_is); (case od_LastWork => k_is); (case n_Mark => k_is); (case oa_Mark => k_is); (case ob_Mark => k_is); (case oc_Mark => k_is); (case od_Mark => k_is); (case km_Last => k_is); (case kk_Last => k_is); (case km_LastWork => k_is); (case kk_LastWork => k_is); (case ki_LastWork => k_is); (case kt_LastWork => k_is); (case km_Near => k_is); (case kk_Near => k_is); (case km_LastOne => k_is); (case kk_LastOne => k_is); (case km_Nth => k_is); (case kk_Nth => k_is); (case km_Numbers => k_is); (case kk_Numbers => k_is); (case km_Weekdays => k_is); (case kk_Weekdays => k_is); (case a6 => k_is); (case a7 => k_is); (case a8 => k_is); (case a9 => k_is); (case a10 => k_is); (case a11 => k_is); (case a0 => k_is); (case l0 => k_is); (case c0 => k_is); (case k0 => k_is); (case a1 => k_is); (case l1 => k_is); (case c1 => k_is); (case k1 => k_is); (case a2 => k_is); (case l2 => k_is); (case c2 => k_is); (case k2 => k_is); (case a3 => k_is); (case l3 => k_is); (case c3 => k_is); (case k3 => k_is); (case a4 => k_is); (case l4 => k_is); (case c4 => k_is); (case k4 => k_is); (case a5 => k_is); (case l5 => k_is); (case c5 => k_is); (case k5 => k_is); (case l6 => k_is); (case c6 => k_is); (case k6 => k_is); (case i6 => k_is); (case l7 => k_is); (case c7 => k_is); (case k7 => k_is); (case i7 => k_is); (case dl7 => k_is); (case r97 => rfl); (case l8 => k_is); (case c8 => k_is); (case k8 => k_is); (case i8 => k_is); (case l9 => k_is); (case c9 => k_is); (case k9 => k_is); (case i9 => k_is); (case l10 => k_is); (case c10 => k_is); (case k10 => k_is); (case i10 => k_is); (case l11 => k_is); (case c11 => k_is); (case k11 => k_is); (case i11 => k_is); (case a12 => k_is); (case l12 => k_is); (case c12 => k_is); (case k12 => k_is); (case a13 => k_is); (case l13 => k_is); (case c13 => k_is); (case k13 => k_is); (case a14 => k_is); (case l14 => k_is); (case c14 => k_is); (case k14 => k_is); (case a15 => k_is); (case l15 => k_is); (case c15 => k_is); (case k15 => k_is); (case a16 => k_is); (case l16 => k_is); (case c16 => k_is); (case k16 => k_is); (case a17 => k_is); (case l17 => k_is); (case c17 => k_is); (case k17 => k_is); (case a18 => k_is); (case l18 => k_is); (case c18 => k_is); (case k18 => k_is); (case a19 => k_is); (case l19 => k_is); (case c19 => k_is); (case k19 => k_is); (case a20 => k_is); (case l20 => k_is); (case c20 => k_is); (case k20 => k_is); (case a21 => k_is); (case l21 => k_is); (case c21 => k_is); (case k21 => k_is); (case a22 => k_is); (case l22 => k_is); (case c22 => k_is); (case k22 => k_is); (case a23 => k_is); (case l23 => k_is); (case c23 => k_is); (case k23 => k_is); (case a24 => k_is); (case l24 => k_is); (case c24 => k_is); (case k24 => k_is); (case a25 => k_is); (case l25 => k_is); (case c25 => k_is); (case k25 => k_is); (case a26 => k_is); (case l26 => k_is); (case c26 => k_is); (case k26 => k_is); (case a27 => k_is); (case l27 => k_is); (case c27 => k_is); (case k27 => k_is); (case a28 => k_is); (case l28 => k_is); (case c28 => k_is); (case k28 => k_is); (case a29 => k_is); (case l29 => k_is); (case c29 => k_is); (case k29 => k_is); (case a30 => k_is); (case l30 => k_is); (case c30 => k_is); (case k30 => k_is); (case a31 => k_is); (case l31 => k_is); (case c31 => k_is); (case k31 => k_is); (case z0 => k_is); (case z1 => k_is); (case z2 => k_is); (case z3 => k_is); (case z4 => k_is); (case z5 => k_is); (case z6 => k_is); (case z7 => k_is); (case z8 => k_is); (case z9 => k_is); (case z10 => k_is); (case y0 => k_is); (case y1 => k_is); (case y2 => k_is); (case y3 => k_is); (case y4 => k_is); (case y5 => k_is); (case y6 => k_is); (case y7 => k_is); (case n_NoField => k_is); (case e0_NoField => k_is); (case e1_NoField => k_is); (case e2_NoField => k_is); (case e3_NoField => k_is); (case e4_NoField => k_is); (case e5_NoField => k_is); (case e6_NoField => k_is); (case e7_NoField => k_is); (case n_FieldError => k_is); (case e0_FieldError => k_is); (case e1_FieldError => k_is); (case e2_FieldError => k_is); (case e3_FieldError => k_is); (case e4_FieldError => k_is); (case e5_FieldError => k_is); (case e6_FieldError => k_is); (case e7_FieldError => k_is); (case n_NoBook => k_is); (case n_NoClock => k_is); (case n_NoDay => k_is); (case n_NoMoment => k_is); (case n_NoName => k_is); (case n_NoRow => k_is); (case n_NoWord => k_is); (case ecn => k_is); (case ect => k_is); (case f_nf => k_is); (case f_sub => k_is); (case f_ve => kit_is); (case f_not => kit_is); (case xo_NoField => rfl); (case xs_NoField => k_is); (case xn_NoField => k_is); (case xa_NoField => k_is); (case xt_NoField => k_is); (case xl_NoField => k_is); (case xc_NoField => k_is); (case xk_NoField => k_is); (case vr => k_is); (case vg => k_is); (case vi => k_is)
