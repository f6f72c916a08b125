import PyProof.Rows.All
import Wide.All
import OpenK.AllK
import Wide.FinOn
import HandS.ForMost
import HandS.ForExc
import HandS.Evl
import HandS.TupLe
import HandS.Walk
import HandS.ExcCtx
import HandS.IsInst
import HandS.Wide
import PyProof.LongRange
import HandS.Conv
import HandS.Deep
import HandS.ExcIs
import HandS.ExcOwn
import HandS.ExcField
import HandS.TryOnly
import HandS.Small
import HandS.HotCalls
import HandS.SuiteRaise
import HandS.ExcInit
import HandS.ExcInitHot
import KE.KExcIs
import PyProof.ExcBaseAll.ValueError
import HandS.New0
import HandS.Defaults
import HandS.Codes
import HandS.Iter
import PyProof.StrOps2
import KE.BitLaws
import HandS.Strs
import HandS.SetFor
import HandS.DeepEq
import HandS.IterVal
import HandS.Text
import KE.OsRunLaw
import PySem.Challenge.RW_fivefields_k18_moments_refused
set_option Elab.async false
set_option linter.all false
set_option maxRecDepth 100000
namespace W18
open PySem PySem.Spec L2
def tpS (p : Program) (i : Nat) : Stmt := p.main.body.getD i (.Pass ⟨0, 0, 0, 0⟩)
end W18
section
namespace W18H
open PySem PySem.W PySem.Spec L2 W18
def cs (l : List Nat) : Str := ⟨⟨l⟩⟩
def de (P : Params) (k : Str) (t : Nat) (v : Value) : DictEntry := ⟨PyData.keyHash P k, .str k t, v⟩
def k2 (p : Program) (P : Params) : Obj := ⟨.none, none, (.dict [].toArray 0), #[]⟩
def k3 (p : Program) (P : Params) : Obj := ⟨(.type "dict"), none, (.dict [de P (cs [95, 95, 110, 97, 109, 101, 95, 95]) 165 (.str (cs [108, 97, 119, 95, 102, 105, 118, 101, 102, 105, 101, 108, 100, 115, 95, 107, 49, 56, 95, 109, 111, 109, 101, 110, 116, 115, 95, 114, 101, 102, 117, 115, 101, 100]) 462), de P (cs [95, 95, 100, 111, 99, 95, 95]) 166 .none, de P (cs [95, 95, 112, 97, 99, 107, 97, 103, 101, 95, 95]) 167 .none, de P (cs [95, 95, 108, 111, 97, 100, 101, 114, 95, 95]) 168 (.builtin "__main__.__loader__#opaque"), de P (cs [95, 95, 115, 112, 101, 99, 95, 95]) 169 .none, de P (cs [95, 95, 97, 110, 110, 111, 116, 97, 116, 105, 111, 110, 115, 95, 95]) 170 (.ref 6), de P (cs [95, 95, 98, 117, 105, 108, 116, 105, 110, 115, 95, 95]) 171 (.ref 4), de P (cs [95, 95, 102, 105, 108, 101, 95, 95]) 173 (.str (cs [47, 99, 108, 97, 105, 109, 47, 99, 117, 116, 46, 112, 121]) 172), de P (cs [95, 95, 99, 97, 99, 104, 101, 100, 95, 95]) 174 .none, de P (cs [70, 105, 101, 108, 100, 69, 114, 114, 111, 114]) 206 (.ref 24), de P (cs [78, 111, 68, 97, 121]) 222 (.ref 37), de P (cs [78, 111, 77, 111, 109, 101, 110, 116]) 238 (.ref 49), de P (cs [78, 111, 70, 105, 101, 108, 100]) 263 (.ref 68), de P (cs [78, 111, 82, 111, 119]) 288 (.ref 87), de P (cs [78, 111, 66, 111, 111, 107]) 304 (.ref 99), de P (cs [78, 111, 67, 108, 111, 99, 107]) 320 (.ref 111), de P (cs [78, 111, 78, 97, 109, 101]) 345 (.ref 130), de P (cs [78, 111, 87, 111, 114, 100]) 361 (.ref 142), de P (cs [70, 73, 71, 85, 82, 69, 83]) 365 (.str (cs [48, 49, 50, 51, 52, 53, 54, 55, 56, 57]) 364), de P (cs [105, 115, 95, 119, 104, 111, 108, 101]) 372 (.ref 151), de P (cs [111, 110, 108, 121, 95, 102, 105, 103, 117, 114, 101, 115]) 380 (.ref 158), de P (cs [76, 65, 83, 84, 83]) 395 (.ref 159), de P (cs [105, 115, 95, 108, 111, 110, 103]) 402 (.ref 166), de P (cs [100, 97, 121, 115, 95, 98, 101, 102, 111, 114, 101]) 409 (.ref 173), de P (cs [108, 97, 115, 116, 95, 111, 102]) 417 (.ref 180), de P (cs [100, 97, 121, 95, 111, 102]) 423 (.ref 185), de P (cs [68, 65, 89]) 427 (.int (1440) 426), de P (cs [72, 79, 85, 82]) 429 (.int (60) 428), de P (cs [77, 79, 83, 84, 95, 70, 73, 71, 85, 82, 69, 83]) 431 (.int (50) 430), de P (cs [84, 65, 73, 76]) 433 (.int (12) 432), de P (cs [109, 111, 109, 101, 110, 116, 95, 111, 102]) 442 (.ref 192), de P (cs [121, 101, 97, 114, 95, 105, 110]) 450 (.ref 199), de P (cs [114, 101, 97, 100, 95, 109, 111, 109, 101, 110, 116]) 461 (.ref 206), de P (cs [95, 108, 97, 119, 95, 99, 101, 108, 108, 95, 97, 116]) 471 (.ref 213), de P (cs [95, 108, 97, 119, 95, 119, 104, 111, 108, 101]) 478 (.ref 220), de P (cs [95, 108, 97, 119, 95, 108, 111, 110, 103]) 485 (.ref 227), de P (cs [95, 108, 97, 119, 95, 108, 97, 115, 116]) 493 (.ref 234), de P (cs [95, 108, 97, 119, 95, 116, 119, 111]) 500 (.ref 241), de P (cs [95, 108, 97, 119, 95, 112, 97, 114, 116, 115]) 514 (.ref 248), de P (cs [95, 108, 97, 119, 95, 98, 97, 100, 95, 110, 117, 109, 98, 101, 114]) 522 (.ref 255), de P (cs [95, 108, 97, 119, 95, 98, 97, 100]) 534 (.ref 262), de P (cs [95, 108, 97, 119, 95, 115, 112, 111, 105, 108, 116]) 549 (.ref 269), de P (cs [95, 108, 97, 119, 95, 114, 101, 102, 117, 115, 101, 100]) 557 (.ref 276), de P (cs [108, 97, 119]) 563 (.ref 281)].toArray 44), #[]⟩
def k15 (p : Program) (P : Params) : Obj := ⟨(.type "tuple"), none, (.seq #[(.type "ValueError")] 0), #[]⟩
def k22 (p : Program) (P : Params) : Obj := ⟨(.type "tuple"), none, (.seq #[] 0), #[]⟩
def k23 (p : Program) (P : Params) : Obj := ⟨(.type "dict"), none, (.dict [de P (cs [95, 95, 109, 111, 100, 117, 108, 101, 95, 95]) 196 (.str (cs [102, 105, 118, 101, 102, 105, 101, 108, 100, 115, 46, 101, 114, 114, 111, 114, 115]) 187), de P (cs [95, 95, 102, 105, 114, 115, 116, 108, 105, 110, 101, 110, 111, 95, 95]) 200 (.int (2) 199), de P (cs [95, 95, 115, 116, 97, 116, 105, 99, 95, 97, 116, 116, 114, 105, 98, 117, 116, 101, 115, 95, 95]) 201 (.ref 22), de P (cs [95, 95, 119, 101, 97, 107, 114, 101, 102, 95, 95]) 203 (.ref 25), de P (cs [95, 95, 100, 111, 99, 95, 95]) 204 .none].toArray 3), #[]⟩
def k24 (p : Program) (P : Params) : Obj := ⟨(.type "type"), none, (.cls { name := (cs [70, 105, 101, 108, 100, 69, 114, 114, 111, 114]), bases := [(.type "ValueError")], mro := [(.ref 24), (.type "ValueError"), (.type "Exception"), (.type "BaseException"), (.type "object")], ns := 23, qualname := (cs [70, 105, 101, 108, 100, 69, 114, 114, 111, 114]), hasDict := true, slotNames := [], subclasses := [(.ref 37), (.ref 49), (.ref 68), (.ref 87), (.ref 99), (.ref 111), (.ref 130), (.ref 142)], abstract := false, collection := none, hasDel := false }), #[(some (.ref 15)), none, (some (.str (cs [70, 105, 101, 108, 100, 69, 114, 114, 111, 114]) 189)), (some (.str (cs [70, 105, 101, 108, 100, 69, 114, 114, 111, 114]) 197)), (some (.builtin "ValueError.__new__")), (some (.bool true))]⟩
def k25 (p : Program) (P : Params) : Obj := ⟨(.type "getset_descriptor"), none, (.fields #[(.str (cs [95, 95, 119, 101, 97, 107, 114, 101, 102, 95, 95]) 202), (.ref 24), (.builtin "ExceptionGroup.__weakref__"), .none]), #[]⟩
def k28 (p : Program) (P : Params) : Obj := ⟨(.type "tuple"), none, (.seq #[(.ref 24)] 0), #[]⟩
def k35 (p : Program) (P : Params) : Obj := ⟨(.type "tuple"), none, (.seq #[] 0), #[]⟩
def k36 (p : Program) (P : Params) : Obj := ⟨(.type "dict"), none, (.dict [de P (cs [95, 95, 109, 111, 100, 117, 108, 101, 95, 95]) 214 (.str (cs [102, 105, 118, 101, 102, 105, 101, 108, 100, 115, 46, 101, 114, 114, 111, 114, 115]) 187), de P (cs [95, 95, 102, 105, 114, 115, 116, 108, 105, 110, 101, 110, 111, 95, 95]) 218 (.int (4) 217), de P (cs [95, 95, 115, 116, 97, 116, 105, 99, 95, 97, 116, 116, 114, 105, 98, 117, 116, 101, 115, 95, 95]) 219 (.ref 35), de P (cs [95, 95, 100, 111, 99, 95, 95]) 220 .none].toArray 2), #[]⟩
def k37 (p : Program) (P : Params) : Obj := ⟨(.type "type"), none, (.cls { name := (cs [78, 111, 68, 97, 121]), bases := [(.ref 24)], mro := [(.ref 37), (.ref 24), (.type "ValueError"), (.type "Exception"), (.type "BaseException"), (.type "object")], ns := 36, qualname := (cs [78, 111, 68, 97, 121]), hasDict := true, slotNames := [], subclasses := [], abstract := false, collection := none, hasDel := false }), #[(some (.ref 28)), none, (some (.str (cs [78, 111, 68, 97, 121]) 207)), (some (.str (cs [78, 111, 68, 97, 121]) 215)), (some (.builtin "ValueError.__new__")), (some (.bool true))]⟩
def k40 (p : Program) (P : Params) : Obj := ⟨(.type "tuple"), none, (.seq #[(.ref 24)] 0), #[]⟩
def k47 (p : Program) (P : Params) : Obj := ⟨(.type "tuple"), none, (.seq #[] 0), #[]⟩
def k48 (p : Program) (P : Params) : Obj := ⟨(.type "dict"), none, (.dict [de P (cs [95, 95, 109, 111, 100, 117, 108, 101, 95, 95]) 230 (.str (cs [102, 105, 118, 101, 102, 105, 101, 108, 100, 115, 46, 101, 114, 114, 111, 114, 115]) 187), de P (cs [95, 95, 102, 105, 114, 115, 116, 108, 105, 110, 101, 110, 111, 95, 95]) 234 (.int (6) 233), de P (cs [95, 95, 115, 116, 97, 116, 105, 99, 95, 97, 116, 116, 114, 105, 98, 117, 116, 101, 115, 95, 95]) 235 (.ref 47), de P (cs [95, 95, 100, 111, 99, 95, 95]) 236 .none].toArray 2), #[]⟩
def k49 (p : Program) (P : Params) : Obj := ⟨(.type "type"), none, (.cls { name := (cs [78, 111, 77, 111, 109, 101, 110, 116]), bases := [(.ref 24)], mro := [(.ref 49), (.ref 24), (.type "ValueError"), (.type "Exception"), (.type "BaseException"), (.type "object")], ns := 48, qualname := (cs [78, 111, 77, 111, 109, 101, 110, 116]), hasDict := true, slotNames := [], subclasses := [], abstract := false, collection := none, hasDel := false }), #[(some (.ref 40)), none, (some (.str (cs [78, 111, 77, 111, 109, 101, 110, 116]) 223)), (some (.str (cs [78, 111, 77, 111, 109, 101, 110, 116]) 231)), (some (.builtin "ValueError.__new__")), (some (.bool true))]⟩
def k52 (p : Program) (P : Params) : Obj := ⟨(.type "tuple"), none, (.seq #[(.ref 24)] 0), #[]⟩
def k59 (p : Program) (P : Params) : Obj := ⟨(.type "tuple"), none, (.seq #[] 0), #[]⟩
def k61 (p : Program) (P : Params) : Obj := ⟨(.type "tuple"), none, (.seq #[(.str (cs [115, 101, 108, 102]) 254), (.str (cs [97, 116]) 255)] 0), #[]⟩
def k62 (p : Program) (P : Params) : Obj := ⟨(.type "tuple"), none, (.seq #[] 0), #[]⟩
def k64 (p : Program) (P : Params) : Obj := ⟨(.type "code"), none, (.fields #[(.str (cs [95, 95, 105, 110, 105, 116, 95, 95]) 251), (.str (cs [78, 111, 70, 105, 101, 108, 100, 46, 95, 95, 105, 110, 105, 116, 95, 95]) 252), (.str (cs [47, 99, 108, 97, 105, 109, 47, 99, 117, 116, 46, 112, 121]) 253), (.int (10) 0), (.int (2) 0), (.int (0) 0), (.int (0) 0), (.int (3) 0), (.ref 59), (.bool true), (.int (181) 0), (.ref 60), .none, (.ref 61), (.ref 62), (.ref 63), (.int (256) 0), (.int (10) 0), (.str (cs [47, 99, 108, 97, 105, 109, 47, 99, 117, 116, 46, 112, 121]) 257)]), #[]⟩
def k65 (p : Program) (P : Params) : Obj := ⟨(.type "function"), none, (.func (fnOf "__init__" "NoField.__init__" (defArgs (inClass (tpS p 4) 0)) (defBody (inClass (tpS p 4) 0)) (defScope (inClass (tpS p 4) 0)) .none .none .none (.str (cs [102, 105, 118, 101, 102, 105, 101, 108, 100, 115, 46, 101, 114, 114, 111, 114, 115]) 187) none (.ref 64) .none)), #[]⟩
def k66 (p : Program) (P : Params) : Obj := ⟨(.type "tuple"), none, (.seq #[(.str (cs [97, 116]) 259)] 0), #[]⟩
def k67 (p : Program) (P : Params) : Obj := ⟨(.type "dict"), none, (.dict [de P (cs [95, 95, 109, 111, 100, 117, 108, 101, 95, 95]) 246 (.str (cs [102, 105, 118, 101, 102, 105, 101, 108, 100, 115, 46, 101, 114, 114, 111, 114, 115]) 187), de P (cs [95, 95, 102, 105, 114, 115, 116, 108, 105, 110, 101, 110, 111, 95, 95]) 250 (.int (8) 249), de P (cs [95, 95, 105, 110, 105, 116, 95, 95]) 258 (.ref 65), de P (cs [95, 95, 115, 116, 97, 116, 105, 99, 95, 97, 116, 116, 114, 105, 98, 117, 116, 101, 115, 95, 95]) 260 (.ref 66), de P (cs [95, 95, 100, 111, 99, 95, 95]) 261 .none].toArray 2), #[]⟩
def k68 (p : Program) (P : Params) : Obj := ⟨(.type "type"), none, (.cls { name := (cs [78, 111, 70, 105, 101, 108, 100]), bases := [(.ref 24)], mro := [(.ref 68), (.ref 24), (.type "ValueError"), (.type "Exception"), (.type "BaseException"), (.type "object")], ns := 67, qualname := (cs [78, 111, 70, 105, 101, 108, 100]), hasDict := true, slotNames := [], subclasses := [], abstract := false, collection := none, hasDel := false }), #[(some (.ref 52)), none, (some (.str (cs [78, 111, 70, 105, 101, 108, 100]) 239)), (some (.str (cs [78, 111, 70, 105, 101, 108, 100]) 247)), (some (.builtin "ValueError.__new__")), (some (.bool true))]⟩
def k71 (p : Program) (P : Params) : Obj := ⟨(.type "tuple"), none, (.seq #[(.ref 24)] 0), #[]⟩
def k78 (p : Program) (P : Params) : Obj := ⟨(.type "tuple"), none, (.seq #[] 0), #[]⟩
def k80 (p : Program) (P : Params) : Obj := ⟨(.type "tuple"), none, (.seq #[(.str (cs [115, 101, 108, 102]) 279), (.str (cs [112, 108, 97, 99, 101]) 280)] 0), #[]⟩
def k81 (p : Program) (P : Params) : Obj := ⟨(.type "tuple"), none, (.seq #[] 0), #[]⟩
def k83 (p : Program) (P : Params) : Obj := ⟨(.type "code"), none, (.fields #[(.str (cs [95, 95, 105, 110, 105, 116, 95, 95]) 276), (.str (cs [78, 111, 82, 111, 119, 46, 95, 95, 105, 110, 105, 116, 95, 95]) 277), (.str (cs [47, 99, 108, 97, 105, 109, 47, 99, 117, 116, 46, 112, 121]) 278), (.int (15) 0), (.int (2) 0), (.int (0) 0), (.int (0) 0), (.int (3) 0), (.ref 78), (.bool true), (.int (181) 0), (.ref 79), .none, (.ref 80), (.ref 81), (.ref 82), (.int (281) 0), (.int (15) 0), (.str (cs [47, 99, 108, 97, 105, 109, 47, 99, 117, 116, 46, 112, 121]) 282)]), #[]⟩
def k84 (p : Program) (P : Params) : Obj := ⟨(.type "function"), none, (.func (fnOf "__init__" "NoRow.__init__" (defArgs (inClass (tpS p 5) 0)) (defBody (inClass (tpS p 5) 0)) (defScope (inClass (tpS p 5) 0)) .none .none .none (.str (cs [102, 105, 118, 101, 102, 105, 101, 108, 100, 115, 46, 101, 114, 114, 111, 114, 115]) 187) none (.ref 83) .none)), #[]⟩
def k85 (p : Program) (P : Params) : Obj := ⟨(.type "tuple"), none, (.seq #[(.str (cs [112, 108, 97, 99, 101]) 284)] 0), #[]⟩
def k86 (p : Program) (P : Params) : Obj := ⟨(.type "dict"), none, (.dict [de P (cs [95, 95, 109, 111, 100, 117, 108, 101, 95, 95]) 271 (.str (cs [102, 105, 118, 101, 102, 105, 101, 108, 100, 115, 46, 101, 114, 114, 111, 114, 115]) 187), de P (cs [95, 95, 102, 105, 114, 115, 116, 108, 105, 110, 101, 110, 111, 95, 95]) 275 (.int (13) 274), de P (cs [95, 95, 105, 110, 105, 116, 95, 95]) 283 (.ref 84), de P (cs [95, 95, 115, 116, 97, 116, 105, 99, 95, 97, 116, 116, 114, 105, 98, 117, 116, 101, 115, 95, 95]) 285 (.ref 85), de P (cs [95, 95, 100, 111, 99, 95, 95]) 286 .none].toArray 2), #[]⟩
def k87 (p : Program) (P : Params) : Obj := ⟨(.type "type"), none, (.cls { name := (cs [78, 111, 82, 111, 119]), bases := [(.ref 24)], mro := [(.ref 87), (.ref 24), (.type "ValueError"), (.type "Exception"), (.type "BaseException"), (.type "object")], ns := 86, qualname := (cs [78, 111, 82, 111, 119]), hasDict := true, slotNames := [], subclasses := [], abstract := false, collection := none, hasDel := false }), #[(some (.ref 71)), none, (some (.str (cs [78, 111, 82, 111, 119]) 264)), (some (.str (cs [78, 111, 82, 111, 119]) 272)), (some (.builtin "ValueError.__new__")), (some (.bool true))]⟩
def k90 (p : Program) (P : Params) : Obj := ⟨(.type "tuple"), none, (.seq #[(.ref 24)] 0), #[]⟩
def k97 (p : Program) (P : Params) : Obj := ⟨(.type "tuple"), none, (.seq #[] 0), #[]⟩
def k98 (p : Program) (P : Params) : Obj := ⟨(.type "dict"), none, (.dict [de P (cs [95, 95, 109, 111, 100, 117, 108, 101, 95, 95]) 296 (.str (cs [102, 105, 118, 101, 102, 105, 101, 108, 100, 115, 46, 101, 114, 114, 111, 114, 115]) 187), de P (cs [95, 95, 102, 105, 114, 115, 116, 108, 105, 110, 101, 110, 111, 95, 95]) 300 (.int (18) 299), de P (cs [95, 95, 115, 116, 97, 116, 105, 99, 95, 97, 116, 116, 114, 105, 98, 117, 116, 101, 115, 95, 95]) 301 (.ref 97), de P (cs [95, 95, 100, 111, 99, 95, 95]) 302 .none].toArray 2), #[]⟩
def k99 (p : Program) (P : Params) : Obj := ⟨(.type "type"), none, (.cls { name := (cs [78, 111, 66, 111, 111, 107]), bases := [(.ref 24)], mro := [(.ref 99), (.ref 24), (.type "ValueError"), (.type "Exception"), (.type "BaseException"), (.type "object")], ns := 98, qualname := (cs [78, 111, 66, 111, 111, 107]), hasDict := true, slotNames := [], subclasses := [], abstract := false, collection := none, hasDel := false }), #[(some (.ref 90)), none, (some (.str (cs [78, 111, 66, 111, 111, 107]) 289)), (some (.str (cs [78, 111, 66, 111, 111, 107]) 297)), (some (.builtin "ValueError.__new__")), (some (.bool true))]⟩
def k102 (p : Program) (P : Params) : Obj := ⟨(.type "tuple"), none, (.seq #[(.ref 24)] 0), #[]⟩
def k109 (p : Program) (P : Params) : Obj := ⟨(.type "tuple"), none, (.seq #[] 0), #[]⟩
def k110 (p : Program) (P : Params) : Obj := ⟨(.type "dict"), none, (.dict [de P (cs [95, 95, 109, 111, 100, 117, 108, 101, 95, 95]) 312 (.str (cs [102, 105, 118, 101, 102, 105, 101, 108, 100, 115, 46, 101, 114, 114, 111, 114, 115]) 187), de P (cs [95, 95, 102, 105, 114, 115, 116, 108, 105, 110, 101, 110, 111, 95, 95]) 316 (.int (20) 315), de P (cs [95, 95, 115, 116, 97, 116, 105, 99, 95, 97, 116, 116, 114, 105, 98, 117, 116, 101, 115, 95, 95]) 317 (.ref 109), de P (cs [95, 95, 100, 111, 99, 95, 95]) 318 .none].toArray 2), #[]⟩
def k111 (p : Program) (P : Params) : Obj := ⟨(.type "type"), none, (.cls { name := (cs [78, 111, 67, 108, 111, 99, 107]), bases := [(.ref 24)], mro := [(.ref 111), (.ref 24), (.type "ValueError"), (.type "Exception"), (.type "BaseException"), (.type "object")], ns := 110, qualname := (cs [78, 111, 67, 108, 111, 99, 107]), hasDict := true, slotNames := [], subclasses := [], abstract := false, collection := none, hasDel := false }), #[(some (.ref 102)), none, (some (.str (cs [78, 111, 67, 108, 111, 99, 107]) 305)), (some (.str (cs [78, 111, 67, 108, 111, 99, 107]) 313)), (some (.builtin "ValueError.__new__")), (some (.bool true))]⟩
def k114 (p : Program) (P : Params) : Obj := ⟨(.type "tuple"), none, (.seq #[(.ref 24)] 0), #[]⟩
def k121 (p : Program) (P : Params) : Obj := ⟨(.type "tuple"), none, (.seq #[] 0), #[]⟩
def k123 (p : Program) (P : Params) : Obj := ⟨(.type "tuple"), none, (.seq #[(.str (cs [115, 101, 108, 102]) 336), (.str (cs [110, 97, 109, 101]) 337)] 0), #[]⟩
def k124 (p : Program) (P : Params) : Obj := ⟨(.type "tuple"), none, (.seq #[] 0), #[]⟩
def k126 (p : Program) (P : Params) : Obj := ⟨(.type "code"), none, (.fields #[(.str (cs [95, 95, 105, 110, 105, 116, 95, 95]) 333), (.str (cs [78, 111, 78, 97, 109, 101, 46, 95, 95, 105, 110, 105, 116, 95, 95]) 334), (.str (cs [47, 99, 108, 97, 105, 109, 47, 99, 117, 116, 46, 112, 121]) 335), (.int (24) 0), (.int (2) 0), (.int (0) 0), (.int (0) 0), (.int (3) 0), (.ref 121), (.bool true), (.int (181) 0), (.ref 122), .none, (.ref 123), (.ref 124), (.ref 125), (.int (338) 0), (.int (24) 0), (.str (cs [47, 99, 108, 97, 105, 109, 47, 99, 117, 116, 46, 112, 121]) 339)]), #[]⟩
def k127 (p : Program) (P : Params) : Obj := ⟨(.type "function"), none, (.func (fnOf "__init__" "NoName.__init__" (defArgs (inClass (tpS p 8) 0)) (defBody (inClass (tpS p 8) 0)) (defScope (inClass (tpS p 8) 0)) .none .none .none (.str (cs [102, 105, 118, 101, 102, 105, 101, 108, 100, 115, 46, 101, 114, 114, 111, 114, 115]) 187) none (.ref 126) .none)), #[]⟩
def k128 (p : Program) (P : Params) : Obj := ⟨(.type "tuple"), none, (.seq #[(.str (cs [110, 97, 109, 101]) 341)] 0), #[]⟩
def k129 (p : Program) (P : Params) : Obj := ⟨(.type "dict"), none, (.dict [de P (cs [95, 95, 109, 111, 100, 117, 108, 101, 95, 95]) 328 (.str (cs [102, 105, 118, 101, 102, 105, 101, 108, 100, 115, 46, 101, 114, 114, 111, 114, 115]) 187), de P (cs [95, 95, 102, 105, 114, 115, 116, 108, 105, 110, 101, 110, 111, 95, 95]) 332 (.int (22) 331), de P (cs [95, 95, 105, 110, 105, 116, 95, 95]) 340 (.ref 127), de P (cs [95, 95, 115, 116, 97, 116, 105, 99, 95, 97, 116, 116, 114, 105, 98, 117, 116, 101, 115, 95, 95]) 342 (.ref 128), de P (cs [95, 95, 100, 111, 99, 95, 95]) 343 .none].toArray 2), #[]⟩
def k130 (p : Program) (P : Params) : Obj := ⟨(.type "type"), none, (.cls { name := (cs [78, 111, 78, 97, 109, 101]), bases := [(.ref 24)], mro := [(.ref 130), (.ref 24), (.type "ValueError"), (.type "Exception"), (.type "BaseException"), (.type "object")], ns := 129, qualname := (cs [78, 111, 78, 97, 109, 101]), hasDict := true, slotNames := [], subclasses := [], abstract := false, collection := none, hasDel := false }), #[(some (.ref 114)), none, (some (.str (cs [78, 111, 78, 97, 109, 101]) 321)), (some (.str (cs [78, 111, 78, 97, 109, 101]) 329)), (some (.builtin "ValueError.__new__")), (some (.bool true))]⟩
def k133 (p : Program) (P : Params) : Obj := ⟨(.type "tuple"), none, (.seq #[(.ref 24)] 0), #[]⟩
def k140 (p : Program) (P : Params) : Obj := ⟨(.type "tuple"), none, (.seq #[] 0), #[]⟩
def k141 (p : Program) (P : Params) : Obj := ⟨(.type "dict"), none, (.dict [de P (cs [95, 95, 109, 111, 100, 117, 108, 101, 95, 95]) 353 (.str (cs [102, 105, 118, 101, 102, 105, 101, 108, 100, 115, 46, 101, 114, 114, 111, 114, 115]) 187), de P (cs [95, 95, 102, 105, 114, 115, 116, 108, 105, 110, 101, 110, 111, 95, 95]) 357 (.int (27) 356), de P (cs [95, 95, 115, 116, 97, 116, 105, 99, 95, 97, 116, 116, 114, 105, 98, 117, 116, 101, 115, 95, 95]) 358 (.ref 140), de P (cs [95, 95, 100, 111, 99, 95, 95]) 359 .none].toArray 2), #[]⟩
def k142 (p : Program) (P : Params) : Obj := ⟨(.type "type"), none, (.cls { name := (cs [78, 111, 87, 111, 114, 100]), bases := [(.ref 24)], mro := [(.ref 142), (.ref 24), (.type "ValueError"), (.type "Exception"), (.type "BaseException"), (.type "object")], ns := 141, qualname := (cs [78, 111, 87, 111, 114, 100]), hasDict := true, slotNames := [], subclasses := [], abstract := false, collection := none, hasDel := false }), #[(some (.ref 133)), none, (some (.str (cs [78, 111, 87, 111, 114, 100]) 346)), (some (.str (cs [78, 111, 87, 111, 114, 100]) 354)), (some (.builtin "ValueError.__new__")), (some (.bool true))]⟩
def k145 (p : Program) (P : Params) : Obj := ⟨(.type "tuple"), none, (.seq #[] 0), #[]⟩
def k147 (p : Program) (P : Params) : Obj := ⟨(.type "tuple"), none, (.seq #[(.str (cs [116, 104, 105, 110, 103]) 369)] 0), #[]⟩
def k148 (p : Program) (P : Params) : Obj := ⟨(.type "tuple"), none, (.seq #[] 0), #[]⟩
def k150 (p : Program) (P : Params) : Obj := ⟨(.type "code"), none, (.fields #[(.str (cs [105, 115, 95, 119, 104, 111, 108, 101]) 366), (.str (cs [105, 115, 95, 119, 104, 111, 108, 101]) 367), (.str (cs [47, 99, 108, 97, 105, 109, 47, 99, 117, 116, 46, 112, 121]) 368), (.int (31) 0), (.int (1) 0), (.int (0) 0), (.int (0) 0), (.int (3) 0), (.ref 145), (.bool true), (.int (181) 0), (.ref 146), .none, (.ref 147), (.ref 148), (.ref 149), (.int (370) 0), (.int (31) 0), (.str (cs [47, 99, 108, 97, 105, 109, 47, 99, 117, 116, 46, 112, 121]) 371)]), #[]⟩
def k151 (p : Program) (P : Params) : Obj := ⟨(.type "function"), none, (.func (fnOf "is_whole" "is_whole" (defArgs (tpS p 12)) (defBody (tpS p 12)) (defScope (tpS p 12)) .none .none .none (.str (cs [102, 105, 118, 101, 102, 105, 101, 108, 100, 115, 46, 119, 104, 111, 108, 101, 115]) 362) none (.ref 150) .none)), #[]⟩
def k152 (p : Program) (P : Params) : Obj := ⟨(.type "tuple"), none, (.seq #[] 0), #[]⟩
def k154 (p : Program) (P : Params) : Obj := ⟨(.type "tuple"), none, (.seq #[(.str (cs [115, 105, 103, 110, 115]) 376), (.str (cs [115, 105, 103, 110]) 377)] 0), #[]⟩
def k155 (p : Program) (P : Params) : Obj := ⟨(.type "tuple"), none, (.seq #[] 0), #[]⟩
def k157 (p : Program) (P : Params) : Obj := ⟨(.type "code"), none, (.fields #[(.str (cs [111, 110, 108, 121, 95, 102, 105, 103, 117, 114, 101, 115]) 373), (.str (cs [111, 110, 108, 121, 95, 102, 105, 103, 117, 114, 101, 115]) 374), (.str (cs [47, 99, 108, 97, 105, 109, 47, 99, 117, 116, 46, 112, 121]) 375), (.int (33) 0), (.int (1) 0), (.int (0) 0), (.int (0) 0), (.int (3) 0), (.ref 152), (.bool true), (.int (181) 0), (.ref 153), .none, (.ref 154), (.ref 155), (.ref 156), (.int (378) 0), (.int (33) 0), (.str (cs [47, 99, 108, 97, 105, 109, 47, 99, 117, 116, 46, 112, 121]) 379)]), #[]⟩
def k158 (p : Program) (P : Params) : Obj := ⟨(.type "function"), none, (.func (fnOf "only_figures" "only_figures" (defArgs (tpS p 13)) (defBody (tpS p 13)) (defScope (tpS p 13)) .none .none .none (.str (cs [102, 105, 118, 101, 102, 105, 101, 108, 100, 115, 46, 119, 104, 111, 108, 101, 115]) 362) none (.ref 157) .none)), #[]⟩
def k159 (p : Program) (P : Params) : Obj := ⟨(.type "tuple"), none, (.seq #[(.int (31) 383), (.int (28) 384), (.int (31) 385), (.int (30) 386), (.int (31) 387), (.int (30) 388), (.int (31) 389), (.int (31) 390), (.int (30) 391), (.int (31) 392), (.int (30) 393), (.int (31) 394)] 0), #[]⟩
def k160 (p : Program) (P : Params) : Obj := ⟨(.type "tuple"), none, (.seq #[] 0), #[]⟩
def k162 (p : Program) (P : Params) : Obj := ⟨(.type "tuple"), none, (.seq #[(.str (cs [121, 101, 97, 114]) 399)] 0), #[]⟩
def k163 (p : Program) (P : Params) : Obj := ⟨(.type "tuple"), none, (.seq #[] 0), #[]⟩
def k165 (p : Program) (P : Params) : Obj := ⟨(.type "code"), none, (.fields #[(.str (cs [105, 115, 95, 108, 111, 110, 103]) 396), (.str (cs [105, 115, 95, 108, 111, 110, 103]) 397), (.str (cs [47, 99, 108, 97, 105, 109, 47, 99, 117, 116, 46, 112, 121]) 398), (.int (40) 0), (.int (1) 0), (.int (0) 0), (.int (0) 0), (.int (3) 0), (.ref 160), (.bool true), (.int (181) 0), (.ref 161), .none, (.ref 162), (.ref 163), (.ref 164), (.int (400) 0), (.int (40) 0), (.str (cs [47, 99, 108, 97, 105, 109, 47, 99, 117, 116, 46, 112, 121]) 401)]), #[]⟩
def k166 (p : Program) (P : Params) : Obj := ⟨(.type "function"), none, (.func (fnOf "is_long" "is_long" (defArgs (tpS p 16)) (defBody (tpS p 16)) (defScope (tpS p 16)) .none .none .none (.str (cs [102, 105, 118, 101, 102, 105, 101, 108, 100, 115, 46, 100, 97, 121, 115]) 381) none (.ref 165) .none)), #[]⟩
def k167 (p : Program) (P : Params) : Obj := ⟨(.type "tuple"), none, (.seq #[] 0), #[]⟩
def k169 (p : Program) (P : Params) : Obj := ⟨(.type "tuple"), none, (.seq #[(.str (cs [121, 101, 97, 114]) 406)] 0), #[]⟩
def k170 (p : Program) (P : Params) : Obj := ⟨(.type "tuple"), none, (.seq #[] 0), #[]⟩
def k172 (p : Program) (P : Params) : Obj := ⟨(.type "code"), none, (.fields #[(.str (cs [100, 97, 121, 115, 95, 98, 101, 102, 111, 114, 101]) 403), (.str (cs [100, 97, 121, 115, 95, 98, 101, 102, 111, 114, 101]) 404), (.str (cs [47, 99, 108, 97, 105, 109, 47, 99, 117, 116, 46, 112, 121]) 405), (.int (42) 0), (.int (1) 0), (.int (0) 0), (.int (0) 0), (.int (3) 0), (.ref 167), (.bool true), (.int (181) 0), (.ref 168), .none, (.ref 169), (.ref 170), (.ref 171), (.int (407) 0), (.int (42) 0), (.str (cs [47, 99, 108, 97, 105, 109, 47, 99, 117, 116, 46, 112, 121]) 408)]), #[]⟩
def k173 (p : Program) (P : Params) : Obj := ⟨(.type "function"), none, (.func (fnOf "days_before" "days_before" (defArgs (tpS p 17)) (defBody (tpS p 17)) (defScope (tpS p 17)) .none .none .none (.str (cs [102, 105, 118, 101, 102, 105, 101, 108, 100, 115, 46, 100, 97, 121, 115]) 381) none (.ref 172) .none)), #[]⟩
def k174 (p : Program) (P : Params) : Obj := ⟨(.type "tuple"), none, (.seq #[] 0), #[]⟩
def k176 (p : Program) (P : Params) : Obj := ⟨(.type "tuple"), none, (.seq #[(.str (cs [121, 101, 97, 114]) 413), (.str (cs [109, 111, 110, 116, 104]) 414)] 0), #[]⟩
def k177 (p : Program) (P : Params) : Obj := ⟨(.type "tuple"), none, (.seq #[] 0), #[]⟩
def k179 (p : Program) (P : Params) : Obj := ⟨(.type "code"), none, (.fields #[(.str (cs [108, 97, 115, 116, 95, 111, 102]) 410), (.str (cs [108, 97, 115, 116, 95, 111, 102]) 411), (.str (cs [47, 99, 108, 97, 105, 109, 47, 99, 117, 116, 46, 112, 121]) 412), (.int (44) 0), (.int (2) 0), (.int (0) 0), (.int (0) 0), (.int (3) 0), (.ref 174), (.bool true), (.int (181) 0), (.ref 175), .none, (.ref 176), (.ref 177), (.ref 178), (.int (415) 0), (.int (44) 0), (.str (cs [47, 99, 108, 97, 105, 109, 47, 99, 117, 116, 46, 112, 121]) 416)]), #[]⟩
def k180 (p : Program) (P : Params) : Obj := ⟨(.type "function"), none, (.func (fnOf "last_of" "last_of" (defArgs (tpS p 18)) (defBody (tpS p 18)) (defScope (tpS p 18)) .none .none .none (.str (cs [102, 105, 118, 101, 102, 105, 101, 108, 100, 115, 46, 100, 97, 121, 115]) 381) none (.ref 179) .none)), #[]⟩
def k181 (p : Program) (P : Params) : Obj := ⟨(.type "tuple"), none, (.seq #[] 0), #[]⟩
def k184 (p : Program) (P : Params) : Obj := ⟨(.type "code"), none, (.fields #[(.str (cs [100, 97, 121, 95, 111, 102]) 418), (.str (cs [100, 97, 121, 95, 111, 102]) 419), (.str (cs [47, 99, 108, 97, 105, 109, 47, 99, 117, 116, 46, 112, 121]) 420), (.int (48) 0), (.int (3) 0), (.int (0) 0), (.int (0) 0), (.int (3) 0), (.ref 181), (.bool true), (.int (181) 0), (.ref 182), .none, .none, .none, (.ref 183), (.int (421) 0), (.int (48) 0), (.str (cs [47, 99, 108, 97, 105, 109, 47, 99, 117, 116, 46, 112, 121]) 422)]), #[]⟩
def k185 (p : Program) (P : Params) : Obj := ⟨(.type "function"), none, (.func (fnOf "day_of" "day_of" (defArgs (tpS p 19)) (defBody (tpS p 19)) (defScope (tpS p 19)) .none .none .none (.str (cs [102, 105, 118, 101, 102, 105, 101, 108, 100, 115, 46, 100, 97, 121, 115]) 381) none (.ref 184) .none)), #[]⟩
def k186 (p : Program) (P : Params) : Obj := ⟨(.type "tuple"), none, (.seq #[] 0), #[]⟩
def k188 (p : Program) (P : Params) : Obj := ⟨(.type "tuple"), none, (.seq #[(.str (cs [100, 97, 121]) 437), (.str (cs [104, 111, 117, 114]) 438), (.str (cs [109, 105, 110, 117, 116, 101]) 439)] 0), #[]⟩
def k189 (p : Program) (P : Params) : Obj := ⟨(.type "tuple"), none, (.seq #[] 0), #[]⟩
def k191 (p : Program) (P : Params) : Obj := ⟨(.type "code"), none, (.fields #[(.str (cs [109, 111, 109, 101, 110, 116, 95, 111, 102]) 434), (.str (cs [109, 111, 109, 101, 110, 116, 95, 111, 102]) 435), (.str (cs [47, 99, 108, 97, 105, 109, 47, 99, 117, 116, 46, 112, 121]) 436), (.int (59) 0), (.int (3) 0), (.int (0) 0), (.int (0) 0), (.int (3) 0), (.ref 186), (.bool true), (.int (181) 0), (.ref 187), .none, (.ref 188), (.ref 189), (.ref 190), (.int (440) 0), (.int (59) 0), (.str (cs [47, 99, 108, 97, 105, 109, 47, 99, 117, 116, 46, 112, 121]) 441)]), #[]⟩
def k192 (p : Program) (P : Params) : Obj := ⟨(.type "function"), none, (.func (fnOf "moment_of" "moment_of" (defArgs (tpS p 25)) (defBody (tpS p 25)) (defScope (tpS p 25)) .none .none .none (.str (cs [102, 105, 118, 101, 102, 105, 101, 108, 100, 115, 46, 109, 111, 109, 101, 110, 116, 115]) 424) none (.ref 191) .none)), #[]⟩
def k193 (p : Program) (P : Params) : Obj := ⟨(.type "tuple"), none, (.seq #[] 0), #[]⟩
def k195 (p : Program) (P : Params) : Obj := ⟨(.type "tuple"), none, (.seq #[(.str (cs [116, 101, 120, 116]) 446), (.str (cs [102, 105, 103, 117, 114, 101, 115]) 447)] 0), #[]⟩
def k196 (p : Program) (P : Params) : Obj := ⟨(.type "tuple"), none, (.seq #[] 0), #[]⟩
def k198 (p : Program) (P : Params) : Obj := ⟨(.type "code"), none, (.fields #[(.str (cs [121, 101, 97, 114, 95, 105, 110]) 443), (.str (cs [121, 101, 97, 114, 95, 105, 110]) 444), (.str (cs [47, 99, 108, 97, 105, 109, 47, 99, 117, 116, 46, 112, 121]) 445), (.int (65) 0), (.int (1) 0), (.int (0) 0), (.int (0) 0), (.int (3) 0), (.ref 193), (.bool true), (.int (181) 0), (.ref 194), .none, (.ref 195), (.ref 196), (.ref 197), (.int (448) 0), (.int (65) 0), (.str (cs [47, 99, 108, 97, 105, 109, 47, 99, 117, 116, 46, 112, 121]) 449)]), #[]⟩
def k199 (p : Program) (P : Params) : Obj := ⟨(.type "function"), none, (.func (fnOf "year_in" "year_in" (defArgs (tpS p 26)) (defBody (tpS p 26)) (defScope (tpS p 26)) .none .none .none (.str (cs [102, 105, 118, 101, 102, 105, 101, 108, 100, 115, 46, 109, 111, 109, 101, 110, 116, 115]) 424) none (.ref 198) .none)), #[]⟩
def k200 (p : Program) (P : Params) : Obj := ⟨(.type "tuple"), none, (.seq #[] 0), #[]⟩
def k202 (p : Program) (P : Params) : Obj := ⟨(.type "tuple"), none, (.seq #[(.str (cs [116, 101, 120, 116]) 454), (.str (cs [116, 97, 105, 108]) 455), (.str (cs [102, 105, 103, 117, 114, 101, 115]) 456), (.str (cs [121, 101, 97, 114]) 457), (.str (cs [100, 97, 121]) 458)] 0), #[]⟩
def k203 (p : Program) (P : Params) : Obj := ⟨(.type "tuple"), none, (.seq #[] 0), #[]⟩
def k205 (p : Program) (P : Params) : Obj := ⟨(.type "code"), none, (.fields #[(.str (cs [114, 101, 97, 100, 95, 109, 111, 109, 101, 110, 116]) 451), (.str (cs [114, 101, 97, 100, 95, 109, 111, 109, 101, 110, 116]) 452), (.str (cs [47, 99, 108, 97, 105, 109, 47, 99, 117, 116, 46, 112, 121]) 453), (.int (74) 0), (.int (1) 0), (.int (0) 0), (.int (0) 0), (.int (3) 0), (.ref 200), (.bool true), (.int (181) 0), (.ref 201), .none, (.ref 202), (.ref 203), (.ref 204), (.int (459) 0), (.int (74) 0), (.str (cs [47, 99, 108, 97, 105, 109, 47, 99, 117, 116, 46, 112, 121]) 460)]), #[]⟩
def k206 (p : Program) (P : Params) : Obj := ⟨(.type "function"), none, (.func (fnOf "read_moment" "read_moment" (defArgs (tpS p 27)) (defBody (tpS p 27)) (defScope (tpS p 27)) .none .none .none (.str (cs [102, 105, 118, 101, 102, 105, 101, 108, 100, 115, 46, 109, 111, 109, 101, 110, 116, 115]) 424) none (.ref 205) .none)), #[]⟩
def k207 (p : Program) (P : Params) : Obj := ⟨(.type "tuple"), none, (.seq #[] 0), #[]⟩
def k209 (p : Program) (P : Params) : Obj := ⟨(.type "tuple"), none, (.seq #[(.str (cs [95, 108, 97, 119, 95, 115, 99, 114, 105, 112, 116]) 467), (.str (cs [95, 108, 97, 119, 95, 107]) 468)] 0), #[]⟩
def k210 (p : Program) (P : Params) : Obj := ⟨(.type "tuple"), none, (.seq #[] 0), #[]⟩
def k212 (p : Program) (P : Params) : Obj := ⟨(.type "code"), none, (.fields #[(.str (cs [95, 108, 97, 119, 95, 99, 101, 108, 108, 95, 97, 116]) 464), (.str (cs [95, 108, 97, 119, 95, 99, 101, 108, 108, 95, 97, 116]) 465), (.str (cs [47, 99, 108, 97, 105, 109, 47, 99, 117, 116, 46, 112, 121]) 466), (.int (88) 0), (.int (2) 0), (.int (0) 0), (.int (0) 0), (.int (3) 0), (.ref 207), (.bool true), (.int (181) 0), (.ref 208), .none, (.ref 209), (.ref 210), (.ref 211), (.int (469) 0), (.int (88) 0), (.str (cs [47, 99, 108, 97, 105, 109, 47, 99, 117, 116, 46, 112, 121]) 470)]), #[]⟩
def k213 (p : Program) (P : Params) : Obj := ⟨(.type "function"), none, (.func (fnOf "_law_cell_at" "_law_cell_at" (defArgs (tpS p 29)) (defBody (tpS p 29)) (defScope (tpS p 29)) .none .none .none (.str (cs [108, 97, 119, 95, 102, 105, 118, 101, 102, 105, 101, 108, 100, 115, 95, 107, 49, 56, 95, 109, 111, 109, 101, 110, 116, 115, 95, 114, 101, 102, 117, 115, 101, 100]) 462) none (.ref 212) .none)), #[]⟩
def k214 (p : Program) (P : Params) : Obj := ⟨(.type "tuple"), none, (.seq #[] 0), #[]⟩
def k216 (p : Program) (P : Params) : Obj := ⟨(.type "tuple"), none, (.seq #[(.str (cs [95, 108, 97, 119, 95, 102, 111, 117, 110, 100]) 475)] 0), #[]⟩
def k217 (p : Program) (P : Params) : Obj := ⟨(.type "tuple"), none, (.seq #[] 0), #[]⟩
def k219 (p : Program) (P : Params) : Obj := ⟨(.type "code"), none, (.fields #[(.str (cs [95, 108, 97, 119, 95, 119, 104, 111, 108, 101]) 472), (.str (cs [95, 108, 97, 119, 95, 119, 104, 111, 108, 101]) 473), (.str (cs [47, 99, 108, 97, 105, 109, 47, 99, 117, 116, 46, 112, 121]) 474), (.int (92) 0), (.int (1) 0), (.int (0) 0), (.int (0) 0), (.int (3) 0), (.ref 214), (.bool true), (.int (181) 0), (.ref 215), .none, (.ref 216), (.ref 217), (.ref 218), (.int (476) 0), (.int (92) 0), (.str (cs [47, 99, 108, 97, 105, 109, 47, 99, 117, 116, 46, 112, 121]) 477)]), #[]⟩
def k220 (p : Program) (P : Params) : Obj := ⟨(.type "function"), none, (.func (fnOf "_law_whole" "_law_whole" (defArgs (tpS p 30)) (defBody (tpS p 30)) (defScope (tpS p 30)) .none .none .none (.str (cs [108, 97, 119, 95, 102, 105, 118, 101, 102, 105, 101, 108, 100, 115, 95, 107, 49, 56, 95, 109, 111, 109, 101, 110, 116, 115, 95, 114, 101, 102, 117, 115, 101, 100]) 462) none (.ref 219) .none)), #[]⟩
def k221 (p : Program) (P : Params) : Obj := ⟨(.type "tuple"), none, (.seq #[] 0), #[]⟩
def k223 (p : Program) (P : Params) : Obj := ⟨(.type "tuple"), none, (.seq #[(.str (cs [95, 108, 97, 119, 95, 121, 101, 97, 114]) 482)] 0), #[]⟩
def k224 (p : Program) (P : Params) : Obj := ⟨(.type "tuple"), none, (.seq #[] 0), #[]⟩
def k226 (p : Program) (P : Params) : Obj := ⟨(.type "code"), none, (.fields #[(.str (cs [95, 108, 97, 119, 95, 108, 111, 110, 103]) 479), (.str (cs [95, 108, 97, 119, 95, 108, 111, 110, 103]) 480), (.str (cs [47, 99, 108, 97, 105, 109, 47, 99, 117, 116, 46, 112, 121]) 481), (.int (94) 0), (.int (1) 0), (.int (0) 0), (.int (0) 0), (.int (3) 0), (.ref 221), (.bool true), (.int (181) 0), (.ref 222), .none, (.ref 223), (.ref 224), (.ref 225), (.int (483) 0), (.int (94) 0), (.str (cs [47, 99, 108, 97, 105, 109, 47, 99, 117, 116, 46, 112, 121]) 484)]), #[]⟩
def k227 (p : Program) (P : Params) : Obj := ⟨(.type "function"), none, (.func (fnOf "_law_long" "_law_long" (defArgs (tpS p 31)) (defBody (tpS p 31)) (defScope (tpS p 31)) .none .none .none (.str (cs [108, 97, 119, 95, 102, 105, 118, 101, 102, 105, 101, 108, 100, 115, 95, 107, 49, 56, 95, 109, 111, 109, 101, 110, 116, 115, 95, 114, 101, 102, 117, 115, 101, 100]) 462) none (.ref 226) .none)), #[]⟩
def k228 (p : Program) (P : Params) : Obj := ⟨(.type "tuple"), none, (.seq #[] 0), #[]⟩
def k230 (p : Program) (P : Params) : Obj := ⟨(.type "tuple"), none, (.seq #[(.str (cs [95, 108, 97, 119, 95, 121, 101, 97, 114]) 489), (.str (cs [95, 108, 97, 119, 95, 109, 111, 110, 116, 104]) 490)] 0), #[]⟩
def k231 (p : Program) (P : Params) : Obj := ⟨(.type "tuple"), none, (.seq #[] 0), #[]⟩
def k233 (p : Program) (P : Params) : Obj := ⟨(.type "code"), none, (.fields #[(.str (cs [95, 108, 97, 119, 95, 108, 97, 115, 116]) 486), (.str (cs [95, 108, 97, 119, 95, 108, 97, 115, 116]) 487), (.str (cs [47, 99, 108, 97, 105, 109, 47, 99, 117, 116, 46, 112, 121]) 488), (.int (96) 0), (.int (2) 0), (.int (0) 0), (.int (0) 0), (.int (3) 0), (.ref 228), (.bool true), (.int (181) 0), (.ref 229), .none, (.ref 230), (.ref 231), (.ref 232), (.int (491) 0), (.int (96) 0), (.str (cs [47, 99, 108, 97, 105, 109, 47, 99, 117, 116, 46, 112, 121]) 492)]), #[]⟩
def k234 (p : Program) (P : Params) : Obj := ⟨(.type "function"), none, (.func (fnOf "_law_last" "_law_last" (defArgs (tpS p 32)) (defBody (tpS p 32)) (defScope (tpS p 32)) .none .none .none (.str (cs [108, 97, 119, 95, 102, 105, 118, 101, 102, 105, 101, 108, 100, 115, 95, 107, 49, 56, 95, 109, 111, 109, 101, 110, 116, 115, 95, 114, 101, 102, 117, 115, 101, 100]) 462) none (.ref 233) .none)), #[]⟩
def k235 (p : Program) (P : Params) : Obj := ⟨(.type "tuple"), none, (.seq #[] 0), #[]⟩
def k237 (p : Program) (P : Params) : Obj := ⟨(.type "tuple"), none, (.seq #[(.str (cs [95, 108, 97, 119, 95, 110, 117, 109, 98, 101, 114]) 497)] 0), #[]⟩
def k238 (p : Program) (P : Params) : Obj := ⟨(.type "tuple"), none, (.seq #[] 0), #[]⟩
def k240 (p : Program) (P : Params) : Obj := ⟨(.type "code"), none, (.fields #[(.str (cs [95, 108, 97, 119, 95, 116, 119, 111]) 494), (.str (cs [95, 108, 97, 119, 95, 116, 119, 111]) 495), (.str (cs [47, 99, 108, 97, 105, 109, 47, 99, 117, 116, 46, 112, 121]) 496), (.int (100) 0), (.int (1) 0), (.int (0) 0), (.int (0) 0), (.int (3) 0), (.ref 235), (.bool true), (.int (181) 0), (.ref 236), .none, (.ref 237), (.ref 238), (.ref 239), (.int (498) 0), (.int (100) 0), (.str (cs [47, 99, 108, 97, 105, 109, 47, 99, 117, 116, 46, 112, 121]) 499)]), #[]⟩
def k241 (p : Program) (P : Params) : Obj := ⟨(.type "function"), none, (.func (fnOf "_law_two" "_law_two" (defArgs (tpS p 33)) (defBody (tpS p 33)) (defScope (tpS p 33)) .none .none .none (.str (cs [108, 97, 119, 95, 102, 105, 118, 101, 102, 105, 101, 108, 100, 115, 95, 107, 49, 56, 95, 109, 111, 109, 101, 110, 116, 115, 95, 114, 101, 102, 117, 115, 101, 100]) 462) none (.ref 240) .none)), #[]⟩
def k242 (p : Program) (P : Params) : Obj := ⟨(.type "tuple"), none, (.seq #[] 0), #[]⟩
def k244 (p : Program) (P : Params) : Obj := ⟨(.type "tuple"), none, (.seq #[(.str (cs [95, 108, 97, 119, 95, 111, 110, 101]) 504), (.str (cs [95, 108, 97, 119, 95, 111, 116, 104, 101, 114]) 505), (.str (cs [95, 108, 97, 119, 95, 121, 101, 97, 114]) 506), (.str (cs [95, 108, 97, 119, 95, 109, 111, 110, 116, 104]) 507), (.str (cs [95, 108, 97, 119, 95, 100, 97, 121]) 508), (.str (cs [95, 108, 97, 119, 95, 104, 111, 117, 114]) 509), (.str (cs [95, 108, 97, 119, 95, 109, 105, 110, 117, 116, 101]) 510), (.str (cs [95, 108, 97, 119, 95, 104, 101, 97, 100]) 511)] 0), #[]⟩
def k245 (p : Program) (P : Params) : Obj := ⟨(.type "tuple"), none, (.seq #[] 0), #[]⟩
def k247 (p : Program) (P : Params) : Obj := ⟨(.type "code"), none, (.fields #[(.str (cs [95, 108, 97, 119, 95, 112, 97, 114, 116, 115]) 501), (.str (cs [95, 108, 97, 119, 95, 112, 97, 114, 116, 115]) 502), (.str (cs [47, 99, 108, 97, 105, 109, 47, 99, 117, 116, 46, 112, 121]) 503), (.int (102) 0), (.int (2) 0), (.int (0) 0), (.int (0) 0), (.int (3) 0), (.ref 242), (.bool true), (.int (181) 0), (.ref 243), .none, (.ref 244), (.ref 245), (.ref 246), (.int (512) 0), (.int (102) 0), (.str (cs [47, 99, 108, 97, 105, 109, 47, 99, 117, 116, 46, 112, 121]) 513)]), #[]⟩
def k248 (p : Program) (P : Params) : Obj := ⟨(.type "function"), none, (.func (fnOf "_law_parts" "_law_parts" (defArgs (tpS p 34)) (defBody (tpS p 34)) (defScope (tpS p 34)) .none .none .none (.str (cs [108, 97, 119, 95, 102, 105, 118, 101, 102, 105, 101, 108, 100, 115, 95, 107, 49, 56, 95, 109, 111, 109, 101, 110, 116, 115, 95, 114, 101, 102, 117, 115, 101, 100]) 462) none (.ref 247) .none)), #[]⟩
def k249 (p : Program) (P : Params) : Obj := ⟨(.type "tuple"), none, (.seq #[] 0), #[]⟩
def k251 (p : Program) (P : Params) : Obj := ⟨(.type "tuple"), none, (.seq #[(.str (cs [95, 108, 97, 119, 95, 99, 101, 108, 108]) 518), (.str (cs [95, 108, 97, 119, 95, 111, 117, 116]) 519)] 0), #[]⟩
def k252 (p : Program) (P : Params) : Obj := ⟨(.type "tuple"), none, (.seq #[] 0), #[]⟩
def k254 (p : Program) (P : Params) : Obj := ⟨(.type "code"), none, (.fields #[(.str (cs [95, 108, 97, 119, 95, 98, 97, 100, 95, 110, 117, 109, 98, 101, 114]) 515), (.str (cs [95, 108, 97, 119, 95, 98, 97, 100, 95, 110, 117, 109, 98, 101, 114]) 516), (.str (cs [47, 99, 108, 97, 105, 109, 47, 99, 117, 116, 46, 112, 121]) 517), (.int (110) 0), (.int (2) 0), (.int (0) 0), (.int (0) 0), (.int (3) 0), (.ref 249), (.bool true), (.int (181) 0), (.ref 250), .none, (.ref 251), (.ref 252), (.ref 253), (.int (520) 0), (.int (110) 0), (.str (cs [47, 99, 108, 97, 105, 109, 47, 99, 117, 116, 46, 112, 121]) 521)]), #[]⟩
def k255 (p : Program) (P : Params) : Obj := ⟨(.type "function"), none, (.func (fnOf "_law_bad_number" "_law_bad_number" (defArgs (tpS p 35)) (defBody (tpS p 35)) (defScope (tpS p 35)) .none .none .none (.str (cs [108, 97, 119, 95, 102, 105, 118, 101, 102, 105, 101, 108, 100, 115, 95, 107, 49, 56, 95, 109, 111, 109, 101, 110, 116, 115, 95, 114, 101, 102, 117, 115, 101, 100]) 462) none (.ref 254) .none)), #[]⟩
def k256 (p : Program) (P : Params) : Obj := ⟨(.type "tuple"), none, (.seq #[] 0), #[]⟩
def k258 (p : Program) (P : Params) : Obj := ⟨(.type "tuple"), none, (.seq #[(.str (cs [95, 108, 97, 119, 95, 112, 97, 114, 116, 115, 95, 104, 101, 114, 101]) 526), (.str (cs [95, 108, 97, 119, 95, 108, 97, 115, 116, 95, 104, 101, 114, 101]) 527), (.str (cs [95, 108, 97, 119, 95, 97, 116]) 528), (.str (cs [95, 108, 97, 119, 95, 99, 101, 108, 108]) 529), (.str (cs [95, 108, 97, 119, 95, 115, 111, 109, 101]) 530), (.str (cs [95, 108, 97, 119, 95, 111, 117, 116, 115]) 531)] 0), #[]⟩
def k259 (p : Program) (P : Params) : Obj := ⟨(.type "tuple"), none, (.seq #[] 0), #[]⟩
def k261 (p : Program) (P : Params) : Obj := ⟨(.type "code"), none, (.fields #[(.str (cs [95, 108, 97, 119, 95, 98, 97, 100]) 523), (.str (cs [95, 108, 97, 119, 95, 98, 97, 100]) 524), (.str (cs [47, 99, 108, 97, 105, 109, 47, 99, 117, 116, 46, 112, 121]) 525), (.int (112) 0), (.int (4) 0), (.int (0) 0), (.int (0) 0), (.int (3) 0), (.ref 256), (.bool true), (.int (181) 0), (.ref 257), .none, (.ref 258), (.ref 259), (.ref 260), (.int (532) 0), (.int (112) 0), (.str (cs [47, 99, 108, 97, 105, 109, 47, 99, 117, 116, 46, 112, 121]) 533)]), #[]⟩
def k262 (p : Program) (P : Params) : Obj := ⟨(.type "function"), none, (.func (fnOf "_law_bad" "_law_bad" (defArgs (tpS p 36)) (defBody (tpS p 36)) (defScope (tpS p 36)) .none .none .none (.str (cs [108, 97, 119, 95, 102, 105, 118, 101, 102, 105, 101, 108, 100, 115, 95, 107, 49, 56, 95, 109, 111, 109, 101, 110, 116, 115, 95, 114, 101, 102, 117, 115, 101, 100]) 462) none (.ref 261) .none)), #[]⟩
def k263 (p : Program) (P : Params) : Obj := ⟨(.type "tuple"), none, (.seq #[] 0), #[]⟩
def k265 (p : Program) (P : Params) : Obj := ⟨(.type "tuple"), none, (.seq #[(.str (cs [95, 108, 97, 119, 95, 112, 97, 114, 116, 115, 95, 104, 101, 114, 101]) 538), (.str (cs [95, 108, 97, 119, 95, 108, 97, 115, 116, 95, 104, 101, 114, 101]) 539), (.str (cs [95, 108, 97, 119, 95, 99, 101, 108, 108]) 540), (.str (cs [95, 108, 97, 119, 95, 119, 97, 121]) 541), (.str (cs [95, 108, 97, 119, 95, 116, 101, 120, 116]) 542), (.str (cs [95, 108, 97, 119, 95, 115, 111, 109, 101]) 543), (.str (cs [95, 108, 97, 119, 95, 115, 112, 111, 105, 108, 116, 95, 104, 101, 114, 101]) 544), (.str (cs [95, 108, 97, 119, 95, 97, 116]) 545), (.str (cs [95, 108, 97, 119, 95, 111, 116, 104, 101, 114]) 546)] 0), #[]⟩
def k266 (p : Program) (P : Params) : Obj := ⟨(.type "tuple"), none, (.seq #[] 0), #[]⟩
def k268 (p : Program) (P : Params) : Obj := ⟨(.type "code"), none, (.fields #[(.str (cs [95, 108, 97, 119, 95, 115, 112, 111, 105, 108, 116]) 535), (.str (cs [95, 108, 97, 119, 95, 115, 112, 111, 105, 108, 116]) 536), (.str (cs [47, 99, 108, 97, 105, 109, 47, 99, 117, 116, 46, 112, 121]) 537), (.int (120) 0), (.int (3) 0), (.int (0) 0), (.int (0) 0), (.int (3) 0), (.ref 263), (.bool true), (.int (181) 0), (.ref 264), .none, (.ref 265), (.ref 266), (.ref 267), (.int (547) 0), (.int (120) 0), (.str (cs [47, 99, 108, 97, 105, 109, 47, 99, 117, 116, 46, 112, 121]) 548)]), #[]⟩
def k269 (p : Program) (P : Params) : Obj := ⟨(.type "function"), none, (.func (fnOf "_law_spoilt" "_law_spoilt" (defArgs (tpS p 37)) (defBody (tpS p 37)) (defScope (tpS p 37)) .none .none .none (.str (cs [108, 97, 119, 95, 102, 105, 118, 101, 102, 105, 101, 108, 100, 115, 95, 107, 49, 56, 95, 109, 111, 109, 101, 110, 116, 115, 95, 114, 101, 102, 117, 115, 101, 100]) 462) none (.ref 268) .none)), #[]⟩
def k270 (p : Program) (P : Params) : Obj := ⟨(.type "tuple"), none, (.seq #[] 0), #[]⟩
def k272 (p : Program) (P : Params) : Obj := ⟨(.type "tuple"), none, (.seq #[(.str (cs [95, 108, 97, 119, 95, 116, 104, 105, 110, 103]) 553), (.str (cs [101]) 554)] 0), #[]⟩
def k273 (p : Program) (P : Params) : Obj := ⟨(.type "tuple"), none, (.seq #[] 0), #[]⟩
def k275 (p : Program) (P : Params) : Obj := ⟨(.type "code"), none, (.fields #[(.str (cs [95, 108, 97, 119, 95, 114, 101, 102, 117, 115, 101, 100]) 550), (.str (cs [95, 108, 97, 119, 95, 114, 101, 102, 117, 115, 101, 100]) 551), (.str (cs [47, 99, 108, 97, 105, 109, 47, 99, 117, 116, 46, 112, 121]) 552), (.int (136) 0), (.int (1) 0), (.int (0) 0), (.int (0) 0), (.int (3) 0), (.ref 270), (.bool true), (.int (181) 0), (.ref 271), .none, (.ref 272), (.ref 273), (.ref 274), (.int (555) 0), (.int (136) 0), (.str (cs [47, 99, 108, 97, 105, 109, 47, 99, 117, 116, 46, 112, 121]) 556)]), #[]⟩
def k276 (p : Program) (P : Params) : Obj := ⟨(.type "function"), none, (.func (fnOf "_law_refused" "_law_refused" (defArgs (tpS p 38)) (defBody (tpS p 38)) (defScope (tpS p 38)) .none .none .none (.str (cs [108, 97, 119, 95, 102, 105, 118, 101, 102, 105, 101, 108, 100, 115, 95, 107, 49, 56, 95, 109, 111, 109, 101, 110, 116, 115, 95, 114, 101, 102, 117, 115, 101, 100]) 462) none (.ref 275) .none)), #[]⟩
def k277 (p : Program) (P : Params) : Obj := ⟨(.type "tuple"), none, (.seq #[] 0), #[]⟩
def k280 (p : Program) (P : Params) : Obj := ⟨(.type "code"), none, (.fields #[(.str (cs [108, 97, 119]) 558), (.str (cs [108, 97, 119]) 559), (.str (cs [47, 99, 108, 97, 105, 109, 47, 99, 117, 116, 46, 112, 121]) 560), (.int (144) 0), (.int (1) 0), (.int (0) 0), (.int (0) 0), (.int (3) 0), (.ref 277), (.bool true), (.int (181) 0), (.ref 278), .none, .none, .none, (.ref 279), (.int (561) 0), (.int (144) 0), (.str (cs [47, 99, 108, 97, 105, 109, 47, 99, 117, 116, 46, 112, 121]) 562)]), #[]⟩
def k281 (p : Program) (P : Params) : Obj := ⟨(.type "function"), none, (.func (fnOf "law" "law" (defArgs (tpS p 39)) (defBody (tpS p 39)) (defScope (tpS p 39)) .none .none .none (.str (cs [108, 97, 119, 95, 102, 105, 118, 101, 102, 105, 101, 108, 100, 115, 95, 107, 49, 56, 95, 109, 111, 109, 101, 110, 116, 115, 95, 114, 101, 102, 117, 115, 101, 100]) 462) none (.ref 280) .none)), #[]⟩
def Kt (p : Program) (P : Params) : Frag := (nat_lit 2, k2 p P) :: (nat_lit 3, k3 p P) :: (nat_lit 15, k15 p P) :: (nat_lit 22, k22 p P) :: (nat_lit 23, k23 p P) :: (nat_lit 24, k24 p P) :: (nat_lit 25, k25 p P) :: (nat_lit 28, k28 p P) :: (nat_lit 35, k35 p P) :: (nat_lit 36, k36 p P) :: (nat_lit 37, k37 p P) :: (nat_lit 40, k40 p P) :: (nat_lit 47, k47 p P) :: (nat_lit 48, k48 p P) :: (nat_lit 49, k49 p P) :: (nat_lit 52, k52 p P) :: (nat_lit 59, k59 p P) :: (nat_lit 61, k61 p P) :: (nat_lit 62, k62 p P) :: (nat_lit 64, k64 p P) :: (nat_lit 65, k65 p P) :: (nat_lit 66, k66 p P) :: (nat_lit 67, k67 p P) :: (nat_lit 68, k68 p P) :: (nat_lit 71, k71 p P) :: (nat_lit 78, k78 p P) :: (nat_lit 80, k80 p P) :: (nat_lit 81, k81 p P) :: (nat_lit 83, k83 p P) :: (nat_lit 84, k84 p P) :: (nat_lit 85, k85 p P) :: (nat_lit 86, k86 p P) :: (nat_lit 87, k87 p P) :: (nat_lit 90, k90 p P) :: (nat_lit 97, k97 p P) :: (nat_lit 98, k98 p P) :: (nat_lit 99, k99 p P) :: (nat_lit 102, k102 p P) :: (nat_lit 109, k109 p P) :: (nat_lit 110, k110 p P) :: (nat_lit 111, k111 p P) :: (nat_lit 114, k114 p P) :: (nat_lit 121, k121 p P) :: (nat_lit 123, k123 p P) :: (nat_lit 124, k124 p P) :: (nat_lit 126, k126 p P) :: (nat_lit 127, k127 p P) :: (nat_lit 128, k128 p P) :: (nat_lit 129, k129 p P) :: (nat_lit 130, k130 p P) :: (nat_lit 133, k133 p P) :: (nat_lit 140, k140 p P) :: (nat_lit 141, k141 p P) :: (nat_lit 142, k142 p P) :: (nat_lit 145, k145 p P) :: (nat_lit 147, k147 p P) :: (nat_lit 148, k148 p P) :: (nat_lit 150, k150 p P) :: (nat_lit 151, k151 p P) :: (nat_lit 152, k152 p P) :: (nat_lit 154, k154 p P) :: (nat_lit 155, k155 p P) :: (nat_lit 157, k157 p P) :: (nat_lit 158, k158 p P) :: (nat_lit 159, k159 p P) :: (nat_lit 160, k160 p P) :: (nat_lit 162, k162 p P) :: (nat_lit 163, k163 p P) :: (nat_lit 165, k165 p P) :: (nat_lit 166, k166 p P) :: (nat_lit 167, k167 p P) :: (nat_lit 169, k169 p P) :: (nat_lit 170, k170 p P) :: (nat_lit 172, k172 p P) :: (nat_lit 173, k173 p P) :: (nat_lit 174, k174 p P) :: (nat_lit 176, k176 p P) :: (nat_lit 177, k177 p P) :: (nat_lit 179, k179 p P) :: (nat_lit 180, k180 p P) :: (nat_lit 181, k181 p P) :: (nat_lit 184, k184 p P) :: (nat_lit 185, k185 p P) :: (nat_lit 186, k186 p P) :: (nat_lit 188, k188 p P) :: (nat_lit 189, k189 p P) :: (nat_lit 191, k191 p P) :: (nat_lit 192, k192 p P) :: (nat_lit 193, k193 p P) :: (nat_lit 195, k195 p P) :: (nat_lit 196, k196 p P) :: (nat_lit 198, k198 p P) :: (nat_lit 199, k199 p P) :: (nat_lit 200, k200 p P) :: (nat_lit 202, k202 p P) :: (nat_lit 203, k203 p P) :: (nat_lit 205, k205 p P) :: (nat_lit 206, k206 p P) :: (nat_lit 207, k207 p P) :: (nat_lit 209, k209 p P) :: (nat_lit 210, k210 p P) :: (nat_lit 212, k212 p P) :: (nat_lit 213, k213 p P) :: (nat_lit 214, k214 p P) :: (nat_lit 216, k216 p P) :: (nat_lit 217, k217 p P) :: (nat_lit 219, k219 p P) :: (nat_lit 220, k220 p P) :: (nat_lit 221, k221 p P) :: (nat_lit 223, k223 p P) :: (nat_lit 224, k224 p P) :: (nat_lit 226, k226 p P) :: (nat_lit 227, k227 p P) :: (nat_lit 228, k228 p P) :: (nat_lit 230, k230 p P) :: (nat_lit 231, k231 p P) :: (nat_lit 233, k233 p P) :: (nat_lit 234, k234 p P) :: (nat_lit 235, k235 p P) :: (nat_lit 237, k237 p P) :: (nat_lit 238, k238 p P) :: (nat_lit 240, k240 p P) :: (nat_lit 241, k241 p P) :: (nat_lit 242, k242 p P) :: (nat_lit 244, k244 p P) :: (nat_lit 245, k245 p P) :: (nat_lit 247, k247 p P) :: (nat_lit 248, k248 p P) :: (nat_lit 249, k249 p P) :: (nat_lit 251, k251 p P) :: (nat_lit 252, k252 p P) :: (nat_lit 254, k254 p P) :: (nat_lit 255, k255 p P) :: (nat_lit 256, k256 p P) :: (nat_lit 258, k258 p P) :: (nat_lit 259, k259 p P) :: (nat_lit 261, k261 p P) :: (nat_lit 262, k262 p P) :: (nat_lit 263, k263 p P) :: (nat_lit 265, k265 p P) :: (nat_lit 266, k266 p P) :: (nat_lit 268, k268 p P) :: (nat_lit 269, k269 p P) :: (nat_lit 270, k270 p P) :: (nat_lit 272, k272 p P) :: (nat_lit 273, k273 p P) :: (nat_lit 275, k275 p P) :: (nat_lit 276, k276 p P) :: (nat_lit 277, k277 p P) :: (nat_lit 280, k280 p P) :: (nat_lit 281, k281 p P) :: []
def Kp (P : Params) : Frag := (nat_lit 2, k2 PySem.Challenge.pw_fivefields_k18_moments_refused P) :: (nat_lit 3, k3 PySem.Challenge.pw_fivefields_k18_moments_refused P) :: (nat_lit 15, k15 PySem.Challenge.pw_fivefields_k18_moments_refused P) :: (nat_lit 22, k22 PySem.Challenge.pw_fivefields_k18_moments_refused P) :: (nat_lit 23, k23 PySem.Challenge.pw_fivefields_k18_moments_refused P) :: (nat_lit 24, k24 PySem.Challenge.pw_fivefields_k18_moments_refused P) :: (nat_lit 25, k25 PySem.Challenge.pw_fivefields_k18_moments_refused P) :: (nat_lit 28, k28 PySem.Challenge.pw_fivefields_k18_moments_refused P) :: (nat_lit 35, k35 PySem.Challenge.pw_fivefields_k18_moments_refused P) :: (nat_lit 36, k36 PySem.Challenge.pw_fivefields_k18_moments_refused P) :: (nat_lit 37, k37 PySem.Challenge.pw_fivefields_k18_moments_refused P) :: (nat_lit 40, k40 PySem.Challenge.pw_fivefields_k18_moments_refused P) :: (nat_lit 47, k47 PySem.Challenge.pw_fivefields_k18_moments_refused P) :: (nat_lit 48, k48 PySem.Challenge.pw_fivefields_k18_moments_refused P) :: (nat_lit 49, k49 PySem.Challenge.pw_fivefields_k18_moments_refused P) :: (nat_lit 52, k52 PySem.Challenge.pw_fivefields_k18_moments_refused P) :: (nat_lit 59, k59 PySem.Challenge.pw_fivefields_k18_moments_refused P) :: (nat_lit 61, k61 PySem.Challenge.pw_fivefields_k18_moments_refused P) :: (nat_lit 62, k62 PySem.Challenge.pw_fivefields_k18_moments_refused P) :: (nat_lit 64, k64 PySem.Challenge.pw_fivefields_k18_moments_refused P) :: (nat_lit 65, k65 PySem.Challenge.pw_fivefields_k18_moments_refused P) :: (nat_lit 66, k66 PySem.Challenge.pw_fivefields_k18_moments_refused P) :: (nat_lit 67, k67 PySem.Challenge.pw_fivefields_k18_moments_refused P) :: (nat_lit 68, k68 PySem.Challenge.pw_fivefields_k18_moments_refused P) :: (nat_lit 71, k71 PySem.Challenge.pw_fivefields_k18_moments_refused P) :: (nat_lit 78, k78 PySem.Challenge.pw_fivefields_k18_moments_refused P) :: (nat_lit 80, k80 PySem.Challenge.pw_fivefields_k18_moments_refused P) :: (nat_lit 81, k81 PySem.Challenge.pw_fivefields_k18_moments_refused P) :: (nat_lit 83, k83 PySem.Challenge.pw_fivefields_k18_moments_refused P) :: (nat_lit 84, k84 PySem.Challenge.pw_fivefields_k18_moments_refused P) :: (nat_lit 85, k85 PySem.Challenge.pw_fivefields_k18_moments_refused P) :: (nat_lit 86, k86 PySem.Challenge.pw_fivefields_k18_moments_refused P) :: (nat_lit 87, k87 PySem.Challenge.pw_fivefields_k18_moments_refused P) :: (nat_lit 90, k90 PySem.Challenge.pw_fivefields_k18_moments_refused P) :: (nat_lit 97, k97 PySem.Challenge.pw_fivefields_k18_moments_refused P) :: (nat_lit 98, k98 PySem.Challenge.pw_fivefields_k18_moments_refused P) :: (nat_lit 99, k99 PySem.Challenge.pw_fivefields_k18_moments_refused P) :: (nat_lit 102, k102 PySem.Challenge.pw_fivefields_k18_moments_refused P) :: (nat_lit 109, k109 PySem.Challenge.pw_fivefields_k18_moments_refused P) :: (nat_lit 110, k110 PySem.Challenge.pw_fivefields_k18_moments_refused P) :: (nat_lit 111, k111 PySem.Challenge.pw_fivefields_k18_moments_refused P) :: (nat_lit 114, k114 PySem.Challenge.pw_fivefields_k18_moments_refused P) :: (nat_lit 121, k121 PySem.Challenge.pw_fivefields_k18_moments_refused P) :: (nat_lit 123, k123 PySem.Challenge.pw_fivefields_k18_moments_refused P) :: (nat_lit 124, k124 PySem.Challenge.pw_fivefields_k18_moments_refused P) :: (nat_lit 126, k126 PySem.Challenge.pw_fivefields_k18_moments_refused P) :: (nat_lit 127, k127 PySem.Challenge.pw_fivefields_k18_moments_refused P) :: (nat_lit 128, k128 PySem.Challenge.pw_fivefields_k18_moments_refused P) :: (nat_lit 129, k129 PySem.Challenge.pw_fivefields_k18_moments_refused P) :: (nat_lit 130, k130 PySem.Challenge.pw_fivefields_k18_moments_refused P) :: (nat_lit 133, k133 PySem.Challenge.pw_fivefields_k18_moments_refused P) :: (nat_lit 140, k140 PySem.Challenge.pw_fivefields_k18_moments_refused P) :: (nat_lit 141, k141 PySem.Challenge.pw_fivefields_k18_moments_refused P) :: (nat_lit 142, k142 PySem.Challenge.pw_fivefields_k18_moments_refused P) :: (nat_lit 145, k145 PySem.Challenge.pw_fivefields_k18_moments_refused P) :: (nat_lit 147, k147 PySem.Challenge.pw_fivefields_k18_moments_refused P) :: (nat_lit 148, k148 PySem.Challenge.pw_fivefields_k18_moments_refused P) :: (nat_lit 150, k150 PySem.Challenge.pw_fivefields_k18_moments_refused P) :: (nat_lit 151, k151 PySem.Challenge.pw_fivefields_k18_moments_refused P) :: (nat_lit 152, k152 PySem.Challenge.pw_fivefields_k18_moments_refused P) :: (nat_lit 154, k154 PySem.Challenge.pw_fivefields_k18_moments_refused P) :: (nat_lit 155, k155 PySem.Challenge.pw_fivefields_k18_moments_refused P) :: (nat_lit 157, k157 PySem.Challenge.pw_fivefields_k18_moments_refused P) :: (nat_lit 158, k158 PySem.Challenge.pw_fivefields_k18_moments_refused P) :: (nat_lit 159, k159 PySem.Challenge.pw_fivefields_k18_moments_refused P) :: (nat_lit 160, k160 PySem.Challenge.pw_fivefields_k18_moments_refused P) :: (nat_lit 162, k162 PySem.Challenge.pw_fivefields_k18_moments_refused P) :: (nat_lit 163, k163 PySem.Challenge.pw_fivefields_k18_moments_refused P) :: (nat_lit 165, k165 PySem.Challenge.pw_fivefields_k18_moments_refused P) :: (nat_lit 166, k166 PySem.Challenge.pw_fivefields_k18_moments_refused P) :: (nat_lit 167, k167 PySem.Challenge.pw_fivefields_k18_moments_refused P) :: (nat_lit 169, k169 PySem.Challenge.pw_fivefields_k18_moments_refused P) :: (nat_lit 170, k170 PySem.Challenge.pw_fivefields_k18_moments_refused P) :: (nat_lit 172, k172 PySem.Challenge.pw_fivefields_k18_moments_refused P) :: (nat_lit 173, k173 PySem.Challenge.pw_fivefields_k18_moments_refused P) :: (nat_lit 174, k174 PySem.Challenge.pw_fivefields_k18_moments_refused P) :: (nat_lit 176, k176 PySem.Challenge.pw_fivefields_k18_moments_refused P) :: (nat_lit 177, k177 PySem.Challenge.pw_fivefields_k18_moments_refused P) :: (nat_lit 179, k179 PySem.Challenge.pw_fivefields_k18_moments_refused P) :: (nat_lit 180, k180 PySem.Challenge.pw_fivefields_k18_moments_refused P) :: (nat_lit 181, k181 PySem.Challenge.pw_fivefields_k18_moments_refused P) :: (nat_lit 184, k184 PySem.Challenge.pw_fivefields_k18_moments_refused P) :: (nat_lit 185, k185 PySem.Challenge.pw_fivefields_k18_moments_refused P) :: (nat_lit 186, k186 PySem.Challenge.pw_fivefields_k18_moments_refused P) :: (nat_lit 188, k188 PySem.Challenge.pw_fivefields_k18_moments_refused P) :: (nat_lit 189, k189 PySem.Challenge.pw_fivefields_k18_moments_refused P) :: (nat_lit 191, k191 PySem.Challenge.pw_fivefields_k18_moments_refused P) :: (nat_lit 192, k192 PySem.Challenge.pw_fivefields_k18_moments_refused P) :: (nat_lit 193, k193 PySem.Challenge.pw_fivefields_k18_moments_refused P) :: (nat_lit 195, k195 PySem.Challenge.pw_fivefields_k18_moments_refused P) :: (nat_lit 196, k196 PySem.Challenge.pw_fivefields_k18_moments_refused P) :: (nat_lit 198, k198 PySem.Challenge.pw_fivefields_k18_moments_refused P) :: (nat_lit 199, k199 PySem.Challenge.pw_fivefields_k18_moments_refused P) :: (nat_lit 200, k200 PySem.Challenge.pw_fivefields_k18_moments_refused P) :: (nat_lit 202, k202 PySem.Challenge.pw_fivefields_k18_moments_refused P) :: (nat_lit 203, k203 PySem.Challenge.pw_fivefields_k18_moments_refused P) :: (nat_lit 205, k205 PySem.Challenge.pw_fivefields_k18_moments_refused P) :: (nat_lit 206, k206 PySem.Challenge.pw_fivefields_k18_moments_refused P) :: (nat_lit 207, k207 PySem.Challenge.pw_fivefields_k18_moments_refused P) :: (nat_lit 209, k209 PySem.Challenge.pw_fivefields_k18_moments_refused P) :: (nat_lit 210, k210 PySem.Challenge.pw_fivefields_k18_moments_refused P) :: (nat_lit 212, k212 PySem.Challenge.pw_fivefields_k18_moments_refused P) :: (nat_lit 213, k213 PySem.Challenge.pw_fivefields_k18_moments_refused P) :: (nat_lit 214, k214 PySem.Challenge.pw_fivefields_k18_moments_refused P) :: (nat_lit 216, k216 PySem.Challenge.pw_fivefields_k18_moments_refused P) :: (nat_lit 217, k217 PySem.Challenge.pw_fivefields_k18_moments_refused P) :: (nat_lit 219, k219 PySem.Challenge.pw_fivefields_k18_moments_refused P) :: (nat_lit 220, k220 PySem.Challenge.pw_fivefields_k18_moments_refused P) :: (nat_lit 221, k221 PySem.Challenge.pw_fivefields_k18_moments_refused P) :: (nat_lit 223, k223 PySem.Challenge.pw_fivefields_k18_moments_refused P) :: (nat_lit 224, k224 PySem.Challenge.pw_fivefields_k18_moments_refused P) :: (nat_lit 226, k226 PySem.Challenge.pw_fivefields_k18_moments_refused P) :: (nat_lit 227, k227 PySem.Challenge.pw_fivefields_k18_moments_refused P) :: (nat_lit 228, k228 PySem.Challenge.pw_fivefields_k18_moments_refused P) :: (nat_lit 230, k230 PySem.Challenge.pw_fivefields_k18_moments_refused P) :: (nat_lit 231, k231 PySem.Challenge.pw_fivefields_k18_moments_refused P) :: (nat_lit 233, k233 PySem.Challenge.pw_fivefields_k18_moments_refused P) :: (nat_lit 234, k234 PySem.Challenge.pw_fivefields_k18_moments_refused P) :: (nat_lit 235, k235 PySem.Challenge.pw_fivefields_k18_moments_refused P) :: (nat_lit 237, k237 PySem.Challenge.pw_fivefields_k18_moments_refused P) :: (nat_lit 238, k238 PySem.Challenge.pw_fivefields_k18_moments_refused P) :: (nat_lit 240, k240 PySem.Challenge.pw_fivefields_k18_moments_refused P) :: (nat_lit 241, k241 PySem.Challenge.pw_fivefields_k18_moments_refused P) :: (nat_lit 242, k242 PySem.Challenge.pw_fivefields_k18_moments_refused P) :: (nat_lit 244, k244 PySem.Challenge.pw_fivefields_k18_moments_refused P) :: (nat_lit 245, k245 PySem.Challenge.pw_fivefields_k18_moments_refused P) :: (nat_lit 247, k247 PySem.Challenge.pw_fivefields_k18_moments_refused P) :: (nat_lit 248, k248 PySem.Challenge.pw_fivefields_k18_moments_refused P) :: (nat_lit 249, k249 PySem.Challenge.pw_fivefields_k18_moments_refused P) :: (nat_lit 251, k251 PySem.Challenge.pw_fivefields_k18_moments_refused P) :: (nat_lit 252, k252 PySem.Challenge.pw_fivefields_k18_moments_refused P) :: (nat_lit 254, k254 PySem.Challenge.pw_fivefields_k18_moments_refused P) :: (nat_lit 255, k255 PySem.Challenge.pw_fivefields_k18_moments_refused P) :: (nat_lit 256, k256 PySem.Challenge.pw_fivefields_k18_moments_refused P) :: (nat_lit 258, k258 PySem.Challenge.pw_fivefields_k18_moments_refused P) :: (nat_lit 259, k259 PySem.Challenge.pw_fivefields_k18_moments_refused P) :: (nat_lit 261, k261 PySem.Challenge.pw_fivefields_k18_moments_refused P) :: (nat_lit 262, k262 PySem.Challenge.pw_fivefields_k18_moments_refused P) :: (nat_lit 263, k263 PySem.Challenge.pw_fivefields_k18_moments_refused P) :: (nat_lit 265, k265 PySem.Challenge.pw_fivefields_k18_moments_refused P) :: (nat_lit 266, k266 PySem.Challenge.pw_fivefields_k18_moments_refused P) :: (nat_lit 268, k268 PySem.Challenge.pw_fivefields_k18_moments_refused P) :: (nat_lit 269, k269 PySem.Challenge.pw_fivefields_k18_moments_refused P) :: (nat_lit 270, k270 PySem.Challenge.pw_fivefields_k18_moments_refused P) :: (nat_lit 272, k272 PySem.Challenge.pw_fivefields_k18_moments_refused P) :: (nat_lit 273, k273 PySem.Challenge.pw_fivefields_k18_moments_refused P) :: (nat_lit 275, k275 PySem.Challenge.pw_fivefields_k18_moments_refused P) :: (nat_lit 276, k276 PySem.Challenge.pw_fivefields_k18_moments_refused P) :: (nat_lit 277, k277 PySem.Challenge.pw_fivefields_k18_moments_refused P) :: (nat_lit 280, k280 PySem.Challenge.pw_fivefields_k18_moments_refused P) :: (nat_lit 281, k281 PySem.Challenge.pw_fivefields_k18_moments_refused P) :: []
def ka : List Addr := [2, 3, 15, 22, 23, 24, 25, 28, 35, 36, 37, 40, 47, 48, 49, 52, 59, 61, 62, 64, 65, 66, 67, 68, 71, 78, 80, 81, 83, 84, 85, 86, 87, 90, 97, 98, 99, 102, 109, 110, 111, 114, 121, 123, 124, 126, 127, 128, 129, 130, 133, 140, 141, 142, 145, 147, 148, 150, 151, 152, 154, 155, 157, 158, 159, 160, 162, 163, 165, 166, 167, 169, 170, 172, 173, 174, 176, 177, 179, 180, 181, 184, 185, 186, 188, 189, 191, 192, 193, 195, 196, 198, 199, 200, 202, 203, 205, 206, 207, 209, 210, 212, 213, 214, 216, 217, 219, 220, 221, 223, 224, 226, 227, 228, 230, 231, 233, 234, 235, 237, 238, 240, 241, 242, 244, 245, 247, 248, 249, 251, 252, 254, 255, 256, 258, 259, 261, 262, 263, 265, 266, 268, 269, 270, 272, 273, 275, 276, 277, 280, 281]
def qOf (p : Program) : Program := { p with main := { p.main with body := [tpS p 39] } }
def lo : List Str := [cs [95, 95, 110, 97, 109, 101, 95, 95], cs [70, 105, 101, 108, 100, 69, 114, 114, 111, 114], cs [78, 111, 68, 97, 121], cs [78, 111, 77, 111, 109, 101, 110, 116], cs [78, 111, 70, 105, 101, 108, 100], cs [78, 111, 82, 111, 119], cs [78, 111, 66, 111, 111, 107], cs [78, 111, 67, 108, 111, 99, 107], cs [78, 111, 78, 97, 109, 101], cs [78, 111, 87, 111, 114, 100], cs [70, 73, 71, 85, 82, 69, 83], cs [105, 115, 95, 119, 104, 111, 108, 101], cs [111, 110, 108, 121, 95, 102, 105, 103, 117, 114, 101, 115], cs [76, 65, 83, 84, 83], cs [105, 115, 95, 108, 111, 110, 103], cs [100, 97, 121, 115, 95, 98, 101, 102, 111, 114, 101], cs [108, 97, 115, 116, 95, 111, 102], cs [100, 97, 121, 95, 111, 102], cs [68, 65, 89], cs [72, 79, 85, 82], cs [77, 79, 83, 84, 95, 70, 73, 71, 85, 82, 69, 83], cs [84, 65, 73, 76], cs [109, 111, 109, 101, 110, 116, 95, 111, 102], cs [121, 101, 97, 114, 95, 105, 110], cs [114, 101, 97, 100, 95, 109, 111, 109, 101, 110, 116], cs [95, 108, 97, 119, 95, 99, 101, 108, 108, 95, 97, 116], cs [95, 108, 97, 119, 95, 119, 104, 111, 108, 101], cs [95, 108, 97, 119, 95, 108, 111, 110, 103], cs [95, 108, 97, 119, 95, 108, 97, 115, 116], cs [95, 108, 97, 119, 95, 116, 119, 111], cs [95, 108, 97, 119, 95, 112, 97, 114, 116, 115], cs [95, 108, 97, 119, 95, 98, 97, 100, 95, 110, 117, 109, 98, 101, 114], cs [95, 108, 97, 119, 95, 98, 97, 100], cs [95, 108, 97, 119, 95, 115, 112, 111, 105, 108, 116], cs [95, 108, 97, 119, 95, 114, 101, 102, 117, 115, 101, 100]]
def dLaw : DefRec := ⟨"law", defArgs (tpS PySem.Challenge.pw_fivefields_k18_moments_refused 39), defBody (tpS PySem.Challenge.pw_fivefields_k18_moments_refused 39), defScope (tpS PySem.Challenge.pw_fivefields_k18_moments_refused 39), ⟨144, 0, 154, 15⟩⟩
end W18H
open PySem PySem.W PyProof.Rows
set_option maxHeartbeats 0 in
theorem W18H.pre (h : PySem.Challenge.rw_fivefields_k18_moments_refused.row.wellSaid = true → PySem.Challenge.rw_fivefields_k18_moments_refused.row.Holds) : PySem.Challenge.rw_fivefields_k18_moments_refused.Holds := by
  w_on; o_law; rename_i said; exact h said
set_option maxHeartbeats 0 in
theorem W18H.run : ∀ w, HeadRun.RunEq PySem.Challenge.rw_fivefields_k18_moments_refused.row (W18H.qOf PySem.Challenge.pw_fivefields_k18_moments_refused) (kHook W18H.Kp W18H.ka (fun _ => by kernel_rfl)) (fun s => W18H.ka.map (HeadRun.getT s)) 5536 W18H.lo w := by
  have te : PySem.Challenge.pw_fivefields_k18_moments_refused = PySem.W.Fast.tw3643030724066166580 := PySem.W.Fast.te3643030724066166580
  intro w os
  show (HeadRun.endF (HeadRun.stepQ (HeadRun.denQ HeadRun.tabQ) PySem.Challenge.pw_fivefields_k18_moments_refused w) _ PySem.Challenge.pw_fivefields_k18_moments_refused w os).map (fun s => (HeadRun.looksF PySem.Challenge.pw_fivefields_k18_moments_refused (boot_heap w.params) s.abs, HeadRun.seenQ (W18H.qOf PySem.Challenge.pw_fivefields_k18_moments_refused) W18H.lo (importedModules (PySem.Challenge.pw_fivefields_k18_moments_refused).main.body) (fun s => xlAt (W18H.qOf PySem.Challenge.pw_fivefields_k18_moments_refused) [] s && recOk [] s) s.abs, W18H.ka.map (HeadRun.getT s))) = some (true, openGood (W18H.qOf PySem.Challenge.pw_fivefields_k18_moments_refused) W18H.lo, (W18H.Kt PySem.Challenge.pw_fivefields_k18_moments_refused w.params).map fun x => some x.2)
  rw [te]
  kernel_rfl
set_option maxHeartbeats 0 in
theorem W18H.head (said : PySem.Challenge.rw_fivefields_k18_moments_refused.row.wellSaid = true) (call : WalkO (W18H.qOf PySem.Challenge.pw_fivefields_k18_moments_refused) W18H.lo (XL (W18H.qOf PySem.Challenge.pw_fivefields_k18_moments_refused) []) (kHook W18H.Kp W18H.ka (fun _ => by kernel_rfl)).says PySem.Challenge.rw_fivefields_k18_moments_refused.row.toRowW W18H.dLaw [] fun f vs => PySem.call f vs) : PySem.Challenge.rw_fivefields_k18_moments_refused.row.Holds := by
  refine HeadRun.head_any (r := PySem.Challenge.rw_fivefields_k18_moments_refused.row) (q := W18H.qOf PySem.Challenge.pw_fivefields_k18_moments_refused) (H := kHook W18H.Kp W18H.ka (fun _ => by kernel_rfl)) (ob := fun s => W18H.ka.map (HeadRun.getT s)) (M := 5536) (loose := W18H.lo) (d := W18H.dLaw) (kwd := []) (fun s => List.map_congr_left fun a _ => HeadRun.getT_eq s a) ?e ?f W18H.run ?hdef ?hp ?hk ?hwr said ?ok ?hb ?hw call
  case e => kernel_rfl
  case f => exact fun s => by kernel_rfl
  case hdef => kernel_rfl
  case hp => kernel_rfl
  case hk => kernel_rfl
  case hwr => kernel_rfl
  case ok => kernel_rfl
  case hb => exact ⟨rfl, rfl, rfl, rfl, rfl, by kernel_rfl⟩
  case hw => w_witness2
end
namespace PL
open PySem PySem.Spec L2
open Evl (Ex)

/-! ### data: what a value is, told without addresses -/
inductive D where
  | v (x : V)
  | tup (l : List D)
  | lst (l : List D)
  | obj (C : Addr) (ns : List Str) (l : List D)
  | dct (ks : List Key) (l : List D)
  /-- d, and just this value -/
  | pin (u : V) (d : D)

abbrev D.int (i : Int) : D := .v (.int i)
abbrev D.bl (b : Bool) : D := .v (.bl b)
abbrev D.str (s : Str) : D := .v (.str s)
abbrev D.non : D := .v .non

mutual
def Rp (K : PySem.W.Frag) (H : Hp) : D → V → Prop
  | .v x, u => u = x
  | .tup l, u => ∃ a xs, u = .ref a ∧ SqT K H a xs ∧ RpL K H l xs
  | .lst l, u => ∃ a xs, u = .ref a ∧ SqL K H a xs ∧ RpL K H l xs
  | .obj C ns l, u => ∃ a dx xs, u = .ref a ∧ H a = some (.ins C dx (ns.zip xs)) ∧ ns.length = xs.length ∧ RpL K H l xs
  | .dct ks l, u => ∃ a xs, u = .ref a ∧ H a = some (.dK (ks.zip xs)) ∧ ks.length = xs.length ∧ RpL K H l xs
  | .pin x d, u => u = x ∧ Rp K H d u
def RpL (K : PySem.W.Frag) (H : Hp) : List D → List V → Prop
  | [], xs => xs = []
  | d :: l, xs => ∃ x r, xs = x :: r ∧ Rp K H d x ∧ RpL K H l r
end

section
variable {K : PySem.W.Frag} {H H' : Hp}
mutual
theorem rp_mono (e : Ex H H') : ∀ {d : D} {u : V}, Rp K H d u → Rp K H' d u
  | .v x, u, h => by
    unfold Rp at h ⊢
    exact h
  | .tup l, u, h => by
    unfold Rp at h ⊢
    obtain ⟨a, xs, h1, h2, h3⟩ := h
    exact ⟨a, xs, h1, Evl.ex_t e h2, rpL_mono e h3⟩
  | .lst l, u, h => by
    unfold Rp at h ⊢
    obtain ⟨a, xs, h1, h2, h3⟩ := h
    exact ⟨a, xs, h1, Evl.ex_l e h2, rpL_mono e h3⟩
  | .obj C ns l, u, h => by
    unfold Rp at h ⊢
    obtain ⟨a, dx, xs, h1, h2, h3, h4⟩ := h
    exact ⟨a, dx, xs, h1, e _ _ h2, h3, rpL_mono e h4⟩
  | .dct ks l, u, h => by
    unfold Rp at h ⊢
    obtain ⟨a, xs, h1, h2, h3, h4⟩ := h
    exact ⟨a, xs, h1, e _ _ h2, h3, rpL_mono e h4⟩
  | .pin x d, u, h => by
    unfold Rp at h ⊢
    exact ⟨h.1, rp_mono e h.2⟩
theorem rpL_mono (e : Ex H H') : ∀ {l : List D} {xs : List V}, RpL K H l xs → RpL K H' l xs
  | [], xs, h => by
    unfold RpL at h ⊢
    exact h
  | d :: l, xs, h => by
    unfold RpL at h ⊢
    obtain ⟨x, r, h1, h2, h3⟩ := h
    exact ⟨x, r, h1, rp_mono e h2, rpL_mono e h3⟩
end

theorem rp_v {x u : V} (h : Rp K H (.v x) u) : u = x := by
  unfold Rp at h
  exact h
theorem rp_v' {x : V} : Rp K H (.v x) x := by
  unfold Rp
  rfl
theorem rpL_nil : RpL K H [] [] := by
  unfold RpL
  rfl
theorem rpL_cons {d : D} {l : List D} {x : V} {r : List V} (h : Rp K H d x) (t : RpL K H l r) : RpL K H (d :: l) (x :: r) := by
  unfold RpL
  exact ⟨x, r, rfl, h, t⟩
theorem rpL_nil_inv {xs : List V} (h : RpL K H [] xs) : xs = [] := by
  unfold RpL at h
  exact h
theorem rpL_cons_inv {d : D} {l : List D} {xs : List V} (h : RpL K H (d :: l) xs) : ∃ x r, xs = x :: r ∧ Rp K H d x ∧ RpL K H l r := by
  unfold RpL at h
  exact h
theorem rpL_len : ∀ {l : List D} {xs : List V}, RpL K H l xs → xs.length = l.length
  | [], xs, h => by
    rw [rpL_nil_inv h]
    rfl
  | d :: l, xs, h => by
    obtain ⟨x, r, rfl, _, h3⟩ := rpL_cons_inv h
    rw [List.length_cons, List.length_cons, rpL_len h3]
theorem rpL_get : ∀ {l : List D} {xs : List V} {i : Nat} {d : D}, RpL K H l xs → l[i]? = some d → ∃ x, xs[i]? = some x ∧ Rp K H d x
  | [], xs, i, d, h, e => by simp at e
  | d' :: l, xs, 0, d, h, e => by
    obtain ⟨x, r, rfl, h2, _⟩ := rpL_cons_inv h
    simp at e
    subst e
    exact ⟨x, rfl, h2⟩
  | d' :: l, xs, i + 1, d, h, e => by
    obtain ⟨x, r, rfl, _, h3⟩ := rpL_cons_inv h
    obtain ⟨y, e1, h4⟩ := rpL_get (i := i) h3 (by simpa using e)
    exact ⟨y, by simpa using e1, h4⟩
theorem rpL_app : ∀ {l m : List D} {xs ys : List V}, RpL K H l xs → RpL K H m ys → RpL K H (l ++ m) (xs ++ ys)
  | [], m, xs, ys, h, h' => by
    rw [rpL_nil_inv h]
    exact h'
  | d :: l, m, xs, ys, h, h' => by
    obtain ⟨x, r, rfl, h2, h3⟩ := rpL_cons_inv h
    exact rpL_cons h2 (rpL_app h3 h')
theorem rpL_set : ∀ {l : List D} {xs : List V} {d : D} {x : V} (i : Nat), RpL K H l xs → Rp K H d x → RpL K H (l.set i d) (xs.set i x)
  | [], xs, d, x, i, h, h' => by
    rw [rpL_nil_inv h]
    exact rpL_nil
  | d' :: l, xs, d, x, 0, h, h' => by
    obtain ⟨y, r, rfl, h2, h3⟩ := rpL_cons_inv h
    exact rpL_cons h' h3
  | d' :: l, xs, d, x, i + 1, h, h' => by
    obtain ⟨y, r, rfl, h2, h3⟩ := rpL_cons_inv h
    exact rpL_cons h2 (rpL_set i h3 h')
theorem rpL_vs : ∀ {vs xs : List V}, RpL K H (vs.map D.v) xs → xs = vs
  | [], xs, h => rpL_nil_inv h
  | v :: vs, xs, h => by
    obtain ⟨x, r, rfl, h2, h3⟩ := rpL_cons_inv h
    rw [rp_v h2, rpL_vs h3]
theorem rpL_vs' : ∀ {vs : List V}, RpL K H (vs.map D.v) vs
  | [] => rpL_nil
  | v :: vs => rpL_cons rp_v' rpL_vs'
end

/-! ### the frame: what stands in a slot -/
/-- an exception's own fields -/
def ExAt (K : PySem.W.Frag) (Hv : Hp) (ns : List Str) (ds : List D) (od : Option Addr) : Prop := (ns = [] ∧ ds = [] ∧ od = none) ∨ ∃ dd xs, od = some dd ∧ Hv dd = some (.xd (ns.zip xs)) ∧ ns.length = xs.length ∧ RpL K Hv ds xs
theorem ExAt.mono {K : PySem.W.Frag} {H H' : Hp} {ns : List Str} {ds : List D} {od : Option Addr} (e : Ex H H') (h : ExAt K H ns ds od) : ExAt K H' ns ds od := by
  rcases h with h | ⟨dd, xs, h1, h2, h3, h4⟩
  · exact .inl h
  · exact .inr ⟨dd, xs, h1, e _ _ h2, h3, rpL_mono e h4⟩
inductive E where
  | no
  | val (d : D)
  /-- an exception that was caught: its address, its fields -/
  | exc (a : Addr) (od : Option Addr) (ns : List Str) (ds : List D)
  /-- an instance that is being made, at p: its fields so far -/
  | slf (p C : Addr) (ns : List Str) (l : List D)
  /-- a list of this def's own: nothing else names it -/
  | own (l : List D)

/-- the view (data that stay) and the heap go on -/
structure Vx (Hv H Hv' H' : Hp) : Prop where
  vv : Ex Hv Hv'
  hh : Ex H H'
  vh : Ex Hv' H'
  fr : ∀ a o, Hv' a = some o → Hv a = some o ∨ H a = none

theorem Vx.refl {Hv H : Hp} (h : Ex Hv H) : Vx Hv H Hv H := ⟨Ex.refl _, Ex.refl _, h, fun _ _ e => .inl e⟩
theorem Vx.trans {A B A1 B1 A2 B2 : Hp} (x : Vx A B A1 B1) (y : Vx A1 B1 A2 B2) : Vx A B A2 B2 :=
  ⟨x.vv.trans y.vv, x.hh.trans y.hh, y.vh, fun a o e => by
    rcases y.fr a o e with h | h
    · exact x.fr a o h
    · exact .inr (Evl.fresh_back x.hh h)⟩

def At (K : PySem.W.Frag) (Bs Hv H : Hp) (e : E) (o : Option V) : Prop := match e with
  | .no => True
  | .val d => ∃ v, o = some v ∧ Rp K Hv d v
  | .exc a od ns ds => o = some (.ref a) ∧ ExAt K Hv ns ds od
  | .slf p C ns l => o = some (.ref p) ∧ Bs p = none ∧ Hv p = none ∧ ∃ dx xs, H p = some (.ins C dx (ns.zip xs)) ∧ ns.length = xs.length ∧ RpL K Hv l xs
  | .own l => ∃ p xs, o = some (.ref p) ∧ Bs p = none ∧ Hv p = none ∧ H p = some (.lst xs) ∧ RpL K Hv l xs

def isOwn : E → Bool
  | .own _ => true
  | _ => false

structure Sg (K : PySem.W.Frag) (Bv Bs Hv H : Hp) (ρ : List E) (σ : St) : Prop where
  vx : Vx Bv Bs Hv H
  len : σ.length = ρ.length
  at_ : ∀ (i : Nat) (e : E), ρ[i]? = some e → ∃ o, σ[i]? = some o ∧ At K Bs Hv H e o
  sep : ∀ (i j : Nat) (l l' : List D) (p : Addr), ρ[i]? = some (.own l) → ρ[j]? = some (.own l') → σ[i]? = some (some (V.ref p)) → σ[j]? = some (some (V.ref p)) → i = j

section
variable {K : PySem.W.Frag} {Bv Bs Hv H Hv' H' : Hp} {ρ ρ' : List E} {σ : St}

theorem Sg.val (g : Sg K Bv Bs Hv H ρ σ) {i : Nat} {d : D} (h : ρ[i]? = some (.val d)) : ∃ v, σ[i]? = some (some v) ∧ Rp K Hv d v := by
  obtain ⟨o, h1, v, h2, h3⟩ := g.at_ i _ h
  subst h2
  exact ⟨v, h1, h3⟩
theorem Sg.own (g : Sg K Bv Bs Hv H ρ σ) {i : Nat} {l : List D} (h : ρ[i]? = some (.own l)) : ∃ p xs, σ[i]? = some (some (.ref p)) ∧ Bs p = none ∧ Hv p = none ∧ H p = some (.lst xs) ∧ RpL K Hv l xs := by
  obtain ⟨o, h1, p, xs, h2, h3⟩ := g.at_ i _ h
  subst h2
  exact ⟨p, xs, h1, h3⟩
/-- the heap goes on, no own list is touched -/
theorem Sg.go (g : Sg K Bv Bs Hv H ρ σ) (x : Vx Hv H Hv' H') : Sg K Bv Bs Hv' H' ρ σ := by
  refine ⟨g.vx.trans x, g.len, fun i e h => ?_, g.sep⟩
  obtain ⟨o, h1, h2⟩ := g.at_ i e h
  refine ⟨o, h1, ?_⟩
  cases e with
  | no => exact trivial
  | val d =>
    obtain ⟨v, e1, e2⟩ := h2
    exact ⟨v, e1, rp_mono x.vv e2⟩
  | exc a od ns ds => exact ⟨h2.1, h2.2.mono x.vv⟩
  | slf p C ns l =>
    obtain ⟨e1, e2, e3, dx, xs, e4, e5, e6⟩ := h2
    refine ⟨e1, e2, ?_, dx, xs, x.hh _ _ e4, e5, rpL_mono x.vv e6⟩
    cases q : Hv' p with
    | none => rfl
    | some o =>
      rcases x.fr p o q with h | h
      · rw [e3] at h; cases h
      · rw [e4] at h; cases h
  | own l =>
    obtain ⟨p, xs, e1, e2, e3, e4, e5⟩ := h2
    refine ⟨p, xs, e1, e2, ?_, x.hh _ _ e4, rpL_mono x.vv e5⟩
    cases q : Hv' p with
    | none => rfl
    | some o =>
      rcases x.fr p o q with h | h
      · rw [e3] at h; cases h
      · rw [e4] at h; cases h
/-- forget -/
inductive Wk : E → E → Prop where
  | same (e : E) : Wk e e
  | no (e : E) : Wk e .no
/-- slot by slot -/
inductive WkL : List E → List E → Prop where
  | nil : WkL [] []
  | cons {e e' : E} {r r' : List E} : Wk e e' → WkL r r' → WkL (e :: r) (e' :: r')
theorem WkL.refl : ∀ (ρ : List E), WkL ρ ρ
  | [] => .nil
  | e :: r => .cons (.same e) (WkL.refl r)
theorem WkL.len : ∀ {ρ ρ' : List E}, WkL ρ ρ' → ρ'.length = ρ.length
  | _, _, .nil => rfl
  | _, _, .cons _ t => by rw [List.length_cons, List.length_cons, t.len]
theorem WkL.get : ∀ {ρ ρ' : List E} {i : Nat} {e' : E}, WkL ρ ρ' → ρ'[i]? = some e' → ∃ e, ρ[i]? = some e ∧ Wk e e'
  | _, _, i, e', .nil, h => by simp at h
  | _, _, 0, e', .cons a t, h => by
    simp at h
    subst h
    exact ⟨_, rfl, a⟩
  | _, _, i + 1, e', .cons a t, h => by
    obtain ⟨e, h1, h2⟩ := t.get (i := i) (by simpa using h)
    exact ⟨e, by simpa using h1, h2⟩
theorem Wk.own {e : E} {l : List D} (h : Wk e (.own l)) : e = .own l := by
  cases h
  rfl
theorem Sg.wk (g : Sg K Bv Bs Hv H ρ σ) (w : WkL ρ ρ') : Sg K Bv Bs Hv H ρ' σ := by
  refine ⟨g.vx, g.len.trans w.len.symm, fun i e h => ?_, fun i j l l' p h1 h2 h3 h4 => ?_⟩
  · obtain ⟨e0, h0, h1⟩ := w.get h
    obtain ⟨o, h2, h3⟩ := g.at_ i e0 h0
    refine ⟨o, h2, ?_⟩
    cases h1 with
    | same => exact h3
    | no => exact trivial
  · obtain ⟨e1, g1, w1⟩ := w.get h1
    obtain ⟨e2, g2, w2⟩ := w.get h2
    exact g.sep i j l l' p (w1.own ▸ g1) (w2.own ▸ g2) h3 h4
/-- a slot gets data -/
theorem Sg.set (g : Sg K Bv Bs Hv H ρ σ) {i : Nat} {d : D} {v : V} (h : Rp K Hv d v) : Sg K Bv Bs Hv H (ρ.set i (.val d)) (σ.set i (some v)) := by
  refine ⟨g.vx, by rw [List.length_set, List.length_set, g.len], fun j e hj => ?_, fun j k l l' p h1 h2 h3 h4 => ?_⟩
  · by_cases hij : i = j
    · subst hij
      have hl : i < ρ.length := by
        have := (List.getElem?_eq_some_iff.mp hj).1
        rwa [List.length_set] at this
      rw [List.getElem?_set_self hl] at hj
      cases hj
      refine ⟨some v, List.getElem?_set_self (by rw [g.len]; exact hl), v, rfl, h⟩
    · rw [List.getElem?_set_ne hij] at hj
      rw [List.getElem?_set_ne hij]
      exact g.at_ j e hj
  · have n1 : i ≠ j := fun z => by
      subst z
      have hl : i < ρ.length := by
        have := (List.getElem?_eq_some_iff.mp h1).1
        rwa [List.length_set] at this
      rw [List.getElem?_set_self hl] at h1
      cases h1
    have n2 : i ≠ k := fun z => by
      subst z
      have hl : i < ρ.length := by
        have := (List.getElem?_eq_some_iff.mp h2).1
        rwa [List.length_set] at this
      rw [List.getElem?_set_self hl] at h2
      cases h2
    rw [List.getElem?_set_ne n1] at h1 h3
    rw [List.getElem?_set_ne n2] at h2 h4
    exact g.sep j k l l' p h1 h2 h3 h4
/-- an address that no own slot holds -/
def NotOwn (ρ : List E) (σ : St) (p : Addr) : Prop := ∀ (i : Nat) (l : List D), ρ[i]? = some (.own l) → σ[i]? ≠ some (some (V.ref p))
theorem Sg.notOwn_new (g : Sg K Bv Bs Hv H ρ σ) {p : Addr} (h : H p = none) : NotOwn ρ σ p := fun i l h1 h2 => by
  obtain ⟨q, xs, e1, _, _, e4, _⟩ := g.own h1
  rw [e1] at h2
  cases h2
  rw [e4] at h
  cases h
/-- a slot gets a list of one's own -/
theorem Sg.setOwn (g : Sg K Bv Bs Hv H ρ σ) {i : Nat} {l : List D} {p : Addr} {xs : List V} (h1 : Bs p = none) (h2 : Hv p = none) (h3 : H p = some (.lst xs)) (h4 : RpL K Hv l xs) (hn : NotOwn ρ σ p) : Sg K Bv Bs Hv H (ρ.set i (.own l)) (σ.set i (some (.ref p))) := by
  refine ⟨g.vx, by rw [List.length_set, List.length_set, g.len], fun j e hj => ?_, fun j k m m' q e1 e2 e3 e4 => ?_⟩
  · by_cases hij : i = j
    · subst hij
      have hl : i < ρ.length := by
        have := (List.getElem?_eq_some_iff.mp hj).1
        rwa [List.length_set] at this
      rw [List.getElem?_set_self hl] at hj
      cases hj
      refine ⟨some (.ref p), List.getElem?_set_self (by rw [g.len]; exact hl), p, xs, rfl, h1, h2, h3, h4⟩
    · rw [List.getElem?_set_ne hij] at hj
      rw [List.getElem?_set_ne hij]
      exact g.at_ j e hj
  · by_cases z1 : i = j
    · by_cases z2 : i = k
      · exact z1.symm.trans z2
      · exfalso
        subst z1
        have hl : i < ρ.length := by
          have := (List.getElem?_eq_some_iff.mp e1).1
          rwa [List.length_set] at this
        rw [List.getElem?_set_self (by rw [g.len]; exact hl)] at e3
        cases e3
        rw [List.getElem?_set_ne z2] at e2 e4
        exact hn k _ e2 e4
    · by_cases z2 : i = k
      · exfalso
        subst z2
        have hl : i < ρ.length := by
          have := (List.getElem?_eq_some_iff.mp e2).1
          rwa [List.length_set] at this
        rw [List.getElem?_set_self (by rw [g.len]; exact hl)] at e4
        cases e4
        rw [List.getElem?_set_ne z1] at e1 e3
        exact hn j _ e1 e3
      · rw [List.getElem?_set_ne z1] at e1 e3
        rw [List.getElem?_set_ne z2] at e2 e4
        exact g.sep j k m m' q e1 e2 e3 e4
/-- an own list changes in place -/
theorem Sg.upd (g : Sg K Bv Bs Hv H ρ σ) {i : Nat} {l l' : List D} {p : Addr} {ys : List V} (h : ρ[i]? = some (.own l)) (hs : σ[i]? = some (some (.ref p))) (h4 : RpL K Hv l' ys) :
    Sg K Bv Bs Hv (upd H p (.lst ys)) (ρ.set i (.own l')) σ := by
  obtain ⟨q, xs, e1, e2, e3, e4, e5⟩ := g.own h
  rw [hs] at e1
  cases e1
  have hl : i < ρ.length := (List.getElem?_eq_some_iff.mp h).1
  have hx : Ex Bs (L2.upd H p (.lst ys)) := Ex.mut g.vx.hh e2
  have hy : Ex Hv (L2.upd H p (.lst ys)) := Ex.mut g.vx.vh e3
  refine ⟨⟨g.vx.vv, hx, hy, g.vx.fr⟩, by rw [List.length_set, g.len], fun j e hj => ?_, fun j k m m' r f1 f2 f3 f4 => ?_⟩
  · by_cases hij : i = j
    · subst hij
      rw [List.getElem?_set_self hl] at hj
      cases hj
      exact ⟨_, hs, p, ys, rfl, e2, e3, upd_same, h4⟩
    · rw [List.getElem?_set_ne hij] at hj
      obtain ⟨o, g1, g2⟩ := g.at_ j e hj
      refine ⟨o, g1, ?_⟩
      cases e with
      | no => exact trivial
      | val d => exact g2
      | exc a od ns ds => exact g2
      | slf r C ns l =>
        obtain ⟨r1, r2, r3, dx, zs, r4, r5, r6⟩ := g2
        have nr : r ≠ p := fun z => by
          rw [z, e4] at r4
          cases r4
        exact ⟨r1, r2, r3, dx, zs, by rw [upd_ne nr]; exact r4, r5, r6⟩
      | own m =>
        obtain ⟨r, zs, r1, r2, r3, r4, r5⟩ := g2
        subst r1
        have nr : r ≠ p := fun z => hij (g.sep i j _ _ p h hj hs (z ▸ g1))
        exact ⟨r, zs, rfl, r2, r3, by rw [upd_ne nr]; exact r4, r5⟩
  · have go : ∀ {n : Nat} {m : List D}, (ρ.set i (.own l'))[n]? = some (.own m) → ∃ m2, ρ[n]? = some (.own m2) := fun {n m} z => by
      by_cases hin : i = n
      · subst hin
        exact ⟨_, h⟩
      · rw [List.getElem?_set_ne hin] at z
        exact ⟨_, z⟩
    obtain ⟨m1, f1⟩ := go f1
    obtain ⟨m2, f2⟩ := go f2
    exact g.sep j k _ _ r f1 f2 f3 f4
/-- an own list becomes data -/
theorem Sg.freezeAt (g : Sg K Bv Bs Hv H ρ σ) {p : Addr} {xs : List V} (h1 : Bs p = none) (h2 : Hv p = none) (h3 : H p = some (.lst xs)) (hn : NotOwn ρ σ p) :
    Sg K Bv Bs (L2.upd Hv p (.lst xs)) H ρ σ := by
  have hx : Ex Hv (L2.upd Hv p (.lst xs)) := Ex.new h2
  refine ⟨⟨g.vx.vv.trans hx, g.vx.hh, fun a o e => ?_, fun a o e => ?_⟩, g.len, fun i e h => ?_, g.sep⟩
  · by_cases z : a = p
    · subst z
      rw [upd_same] at e
      cases e
      exact h3
    · rw [upd_ne z] at e
      exact g.vx.vh a o e
  · by_cases z : a = p
    · subst z
      exact .inr h1
    · rw [upd_ne z] at e
      exact g.vx.fr a o e
  · obtain ⟨o, e1, e2⟩ := g.at_ i e h
    refine ⟨o, e1, ?_⟩
    cases e with
    | no => exact trivial
    | val d =>
      obtain ⟨v, a1, a2⟩ := e2
      exact ⟨v, a1, rp_mono hx a2⟩
    | exc a od ns ds => exact ⟨e2.1, e2.2.mono hx⟩
    | slf r C ns l =>
      obtain ⟨r1, r2, r3, dx, zs, r4, r5, r6⟩ := e2
      have nr : r ≠ p := fun z => by
        rw [z, h3] at r4
        cases r4
      exact ⟨r1, r2, by rw [upd_ne nr]; exact r3, dx, zs, r4, r5, rpL_mono hx r6⟩
    | own l =>
      obtain ⟨q, ys, a1, a2, a3, a4, a5⟩ := e2
      subst a1
      have nq : q ≠ p := fun z => hn i l h (z ▸ e1)
      exact ⟨q, ys, rfl, a2, by rw [upd_ne nq]; exact a3, a4, rpL_mono hx a5⟩
theorem WkL.no : ∀ (ρ : List E) (i : Nat), WkL ρ (ρ.set i .no)
  | [], _ => .nil
  | e :: r, 0 => .cons (.no e) (WkL.refl r)
  | e :: r, i + 1 => .cons (.same e) (WkL.no r i)
theorem set_set_E : ∀ (ρ : List E) (i : Nat) (a b : E), (ρ.set i a).set i b = ρ.set i b
  | [], _, _, _ => rfl
  | _ :: _, 0, _, _ => rfl
  | e :: r, i + 1, a, b => by
    show e :: (r.set i a).set i b = e :: r.set i b
    rw [set_set_E]
theorem set_self_of : ∀ {α : Type} (l : List α) (i : Nat) (a : α), l[i]? = some a → l.set i a = l
  | _, [], _, _, _ => rfl
  | _, x :: r, 0, a, h => by
    simp at h
    subst h
    rfl
  | _, x :: r, i + 1, a, h => by
    show x :: r.set i a = x :: r
    rw [set_self_of r i a (by simpa using h)]
theorem Sg.freeze (g : Sg K Bv Bs Hv H ρ σ) {i : Nat} {l : List D} (h : ρ[i]? = some (.own l)) : ∃ Hv', Ex Hv Hv' ∧ Sg K Bv Bs Hv' H (ρ.set i (.val (.lst l))) σ := by
  obtain ⟨p, xs, e1, e2, e3, e4, e5⟩ := g.own h
  have hl : i < ρ.length := (List.getElem?_eq_some_iff.mp h).1
  have hx : Ex Hv (L2.upd Hv p (.lst xs)) := Ex.new e3
  have g1 : Sg K Bv Bs Hv H (ρ.set i .no) σ := g.wk (WkL.no ρ i)
  have hn : NotOwn (ρ.set i .no) σ p := fun j m a b => by
    by_cases z : i = j
    · subst z
      rw [List.getElem?_set_self hl] at a
      cases a
    · rw [List.getElem?_set_ne z] at a
      exact z (g.sep i j _ _ p h a e1 b)
  have g2 := g1.freezeAt e2 e3 e4 hn
  have g3 := g2.set (i := i) (d := .lst l) (v := .ref p) (by
    unfold Rp
    exact ⟨p, xs, rfl, .inl (.inl upd_same), rpL_mono hx e5⟩)
  rw [set_set_E, set_self_of σ i _ e1] at g3
  exact ⟨_, hx, g3⟩
end
end PL
namespace PL
open PySem PySem.Spec L2
open Evl (Ex)

/-! ### judgements -/
def tD (K : PySem.W.Frag) (ρ : List E) (d : D) : TE := fun σ H Q => ∃ Bv Bs Hv, Sg K Bv Bs Hv H ρ σ ∧ ∀ v H' Hv', Sg K Bv Bs Hv' H' ρ σ → Vx Hv H Hv' H' → Rp K Hv' d v → Q v H'
/-- told of the heap as it stands (own lists too) -/
def tW (K : PySem.W.Frag) (ρ : List E) (d : D) : TE := fun σ H Q => ∃ Bv Bs Hv, Sg K Bv Bs Hv H ρ σ ∧ ∀ v H' Hv', Sg K Bv Bs Hv' H' ρ σ → Vx Hv H Hv' H' → Rp K H' d v → Q v H'
/-- a new list that nothing names -/
def tO (K : PySem.W.Frag) (ρ : List E) (l : List D) : TE := fun σ H Q => ∃ Bv Bs Hv, Sg K Bv Bs Hv H ρ σ ∧ ∀ p xs H' Hv', Sg K Bv Bs Hv' H' ρ σ → Vx Hv H Hv' H' → Bs p = none → Hv' p = none → H' p = some (.lst xs) → RpL K Hv' l xs → NotOwn ρ σ p → H p = none → Q (.ref p) H'
def tBl (K : PySem.W.Frag) (ρ : List E) (b : Bool) : TT := fun σ H Q => ∃ Bv Bs Hv, Sg K Bv Bs Hv H ρ σ ∧ ∀ H' Hv', Sg K Bv Bs Hv' H' ρ σ → Vx Hv H Hv' H' → Q b H'
def tDs (K : PySem.W.Frag) (ρ : List E) (ds : List D) : TA := fun σ H Q => ∃ Bv Bs Hv, Sg K Bv Bs Hv H ρ σ ∧ ∀ vs H' Hv', Sg K Bv Bs Hv' H' ρ σ → Vx Hv H Hv' H' → RpL K Hv' ds vs → Q vs H'
def tWs (K : PySem.W.Frag) (ρ : List E) (ds : List D) : TA := fun σ H Q => ∃ Bv Bs Hv, Sg K Bv Bs Hv H ρ σ ∧ ∀ vs H' Hv', Sg K Bv Bs Hv' H' ρ σ → Vx Hv H Hv' H' → RpL K H' ds vs → Q vs H'

abbrev XE (X : Cx) (ρ : List E) (e : Expr) (d : D) : Prop := PE X e (tD X.K ρ d)
abbrev XW (X : Cx) (ρ : List E) (e : Expr) (d : D) : Prop := PE X e (tW X.K ρ d)
abbrev XO (X : Cx) (ρ : List E) (e : Expr) (l : List D) : Prop := PE X e (tO X.K ρ l)
abbrev XT (X : Cx) (ρ : List E) (e : Expr) (b : Bool) : Prop := PT X e (tBl X.K ρ b)
abbrev XV (X : Cx) (ρ : List E) (e : Expr) (b : Bool) : Prop := PW X e (tBl X.K ρ b)
abbrev XA (X : Cx) (ρ : List E) (es : List Expr) (ds : List D) : Prop := PA X es (tDs X.K ρ ds)
abbrev XAw (X : Cx) (ρ : List E) (es : List Expr) (ds : List D) : Prop := PA X es (tWs X.K ρ ds)

theorem PE.imp {X : Cx} {e : Expr} {t t' : TE} (h : PE X e t) (i : ∀ σ H Q, t' σ H Q → t σ H Q) : PE X e t' := ⟨fun pins s σ H Q I w => h.run pins s σ H Q I (i σ H Q w)⟩
theorem PT.imp {X : Cx} {e : Expr} {t t' : TT} (h : PT X e t) (i : ∀ σ H Q, t' σ H Q → t σ H Q) : PT X e t' := ⟨fun pins s σ H Q I w => h.run pins s σ H Q I (i σ H Q w)⟩
theorem PW.imp {X : Cx} {e : Expr} {t t' : TT} (h : PW X e t) (i : ∀ σ H Q, t' σ H Q → t σ H Q) : PW X e t' := ⟨fun wh pins s σ H Q I w => h.run wh pins s σ H Q I (i σ H Q w)⟩
theorem PA.imp {X : Cx} {es : List Expr} {t t' : TA} (h : PA X es t) (i : ∀ σ H Q, t' σ H Q → t σ H Q) : PA X es t' := ⟨fun pos pins s σ H Q I w => h.run pos pins s σ H Q I (i σ H Q w)⟩
theorem PS.imp {X : Cx} {e : Stmt} {t t' : TS} (h : PS X e t) (i : ∀ D σ H, t' D σ H → t D σ H) : PS X e t' := ⟨fun pins s σ H D I w => h.run pins s σ H D I (i D σ H w)⟩
theorem PSs.imp {X : Cx} {e : List Stmt} {t t' : TS} (h : PSs X e t) (i : ∀ D σ H, t' D σ H → t D σ H) : PSs X e t' := ⟨fun pins s σ H D I w => h.run pins s σ H D I (i D σ H w)⟩
theorem PG.imp {X : Cx} {e : Expr} {t t' : TG} (h : PG X e t) (i : ∀ v σ H Q, t' v σ H Q → t v σ H Q) : PG X e t' := ⟨fun pins s σ H v u Q I r w => h.run pins s σ H v u Q I r (i v σ H Q w)⟩

section
variable {X : Cx} {ρ : List E} {e a b : Expr} {d x y z : D} {pos : Pos}

theorem Vx.freeze {Hv H Hv' H' : Hp} {p : Addr} {o : HO} (x : Vx Hv H Hv' H') (h2 : Hv' p = none) (h3 : H' p = some o) (h6 : H p = none) : Vx Hv H (upd Hv' p o) H' := ⟨x.vv.trans (Ex.new h2), x.hh, fun a u e => by
  by_cases z : a = p
  · subst z
    rw [upd_same] at e
    rw [h3, e]
  · rw [upd_ne z] at e
    exact x.vh a u e, fun a u e => by
  by_cases z : a = p
  · subst z
    exact .inr h6
  · rw [upd_ne z] at e
    exact x.fr a u e⟩
theorem Vx.newV {Hv H : Hp} {p : Addr} {o : HO} (x : Ex Hv H) (h : H p = none) : Vx Hv H (upd Hv p o) (upd H p o) := by
  have h1 : Hv p = none := Evl.fresh_back x h
  refine ⟨Ex.new h1, Ex.new h, fun a u e => ?_, fun a u e => ?_⟩
  · by_cases z : a = p
    · subst z
      rw [upd_same] at e ⊢
      exact e
    · rw [upd_ne z] at e ⊢
      exact x a u e
  · by_cases z : a = p
    · subst z
      exact .inr h
    · rw [upd_ne z] at e
      exact .inl e
theorem Vx.newH {Hv H : Hp} {p : Addr} {o : HO} (x : Ex Hv H) (h : H p = none) : Vx Hv H Hv (upd H p o) := ⟨Ex.refl _, Ex.new h, x.trans (Ex.new h), fun a u e => .inl e⟩
theorem XE.w (h : XE X ρ e d) : XW X ρ e d := PE.imp h fun σ H Q ⟨Bv, Bs, Hv, g, k⟩ => ⟨Bv, Bs, Hv, g, fun v H' Hv' g' e1 r => k v H' Hv' g' e1 (rp_mono g'.vx.vh r)⟩
/-- a value without an address is told as well by the heap -/
theorem XW.s {u : V} (h : XW X ρ e (.v u)) : XE X ρ e (.v u) := PE.imp h fun σ H Q ⟨Bv, Bs, Hv, g, k⟩ => ⟨Bv, Bs, Hv, g, fun v H' Hv' g' e1 r => k v H' Hv' g' e1 (rp_v r ▸ rp_v')⟩
theorem XO.dat {l : List D} (h : XO X ρ e l) : XE X ρ e (.lst l) := PE.imp h fun σ H Q ⟨Bv, Bs, Hv, g, k⟩ => ⟨Bv, Bs, Hv, g, fun p xs H' Hv' g' e1 h1 h2 h3 h4 h5 h6 => by
  have hx : Ex Hv' (upd Hv' p (.lst xs)) := Ex.new h2
  refine k (.ref p) H' (upd Hv' p (.lst xs)) (g'.freezeAt h1 h2 h3 h5) (e1.freeze h2 h3 h6) ?_
  unfold Rp
  exact ⟨p, xs, rfl, .inl (.inl upd_same), rpL_mono hx h4⟩⟩
theorem XE.is (h : XE X ρ e d) (q : d = x) : XE X ρ e x := q ▸ h
theorem XT.is {b c : Bool} (h : XT X ρ e b) (q : b = c) : XT X ρ e c := q ▸ h

/-! ### names and constants -/
theorem xe_name (i : Nat) {s : Str} (hN : X.N[i]? = some s) (hv : Vis X.env.scope s) (hr : ρ[i]? = some (.val d)) (hd : (s == ("__debug__" : Str)) = false := by decide) (hcd : (s == ("__classdict__" : Str)) = false := by decide) : XE X ρ (.Name s pos) d :=
  PE.imp (pe_var (i := i) hN hv hd hcd) fun σ H Q ⟨Bv, Bs, Hv, g, k⟩ => by
    obtain ⟨v, h1, h2⟩ := g.val hr
    exact ⟨v, h1, k v H Hv g (Vx.refl g.vx.vh) h2⟩
theorem xe_of {t : TE} {u : V} (h : PE X e t) (ht : ∀ σ H Q, Q u H → t σ H Q) : XE X ρ e (.v u) := PE.imp h fun σ H Q ⟨Bv, Bs, Hv, g, k⟩ => ht σ H Q (k u H Hv g (Vx.refl g.vx.vh) rp_v')
theorem xe_int {i j} : XE X ρ (.Constant (.int i) j pos) (.int i) := xe_of pe_int fun _ _ _ h => h
theorem xe_bl {i j} : XE X ρ (.Constant (.bool i) j pos) (.bl i) := xe_of pe_bl fun _ _ _ h => h
theorem xe_non {j} : XE X ρ (.Constant .none j pos) .non := xe_of pe_non fun _ _ _ h => h
theorem xe_str {i j} : XE X ρ (.Constant (.str i) j pos) (.str i) := xe_of pe_str fun _ _ _ h => h
/-- a global that holds a plain value -/
theorem xe_glob {s : Str} {v : V} {u : Value} (hg : Gl X s) (hm : X.mg s = some u) (r : RelV v u) (hd : (s == ("__debug__" : Str)) = false := by decide) : XE X ρ (.Name s pos) (.v v) := xe_of (pe_glob hg hm r hd) fun _ _ _ h => h
/-- a global that holds data of the written part -/
theorem xe_globD {s : Str} {v : V} {u : Value} (hg : Gl X s) (hm : X.mg s = some u) (r : RelV v u) (hr : ∀ H, Rp X.K H d v) (hd : (s == ("__debug__" : Str)) = false := by decide) : XE X ρ (.Name s pos) d :=
  PE.imp (pe_glob hg hm r hd) fun σ H Q ⟨Bv, Bs, Hv, g, k⟩ => k v H Hv g (Vx.refl g.vx.vh) (hr Hv)

/-! ### operators upon plain values -/
/-- r asks of plain values u, w and gives z, the heap as it is -/
def R2v (r : R2) (u w z : V) : Prop := ∀ H Q, Q z H → r u w H Q
theorem xw_op {op : Operator} {r : R2} {u w z : V} (ho : OpR X (binaryOp op) r) (ha : XW X ρ a (.v u)) (hb : XW X ρ b (.v w)) (hr : R2v r u w z) : XE X ρ (.BinOp a op b pos) (.v z) :=
  PE.imp (pe_op ho ha hb) fun σ H Q ⟨Bv, Bs, Hv, g, k⟩ => ⟨Bv, Bs, Hv, g, fun v1 H1 Hv1 g1 e1 r1 => ⟨Bv, Bs, Hv1, g1, fun v2 H2 Hv2 g2 e2 r2 => by
    rw [rp_v r1, rp_v r2]
    exact hr _ _ (k z H2 Hv2 g2 (e1.trans e2) rp_v')⟩⟩
theorem xe_op {op : Operator} {r : R2} {u w z : V} (ho : OpR X (binaryOp op) r) (ha : XE X ρ a (.v u)) (hb : XE X ρ b (.v w)) (hr : R2v r u w z) : XE X ρ (.BinOp a op b pos) (.v z) := xw_op ho ha.w hb.w hr
theorem xe_un {op : UnaryOp} {r : V → Hp → VK → Prop} {u z : V} (ho : UnR X (unaryOp op) r) (ha : XE X ρ a (.v u)) (hr : ∀ H Q, Q z H → r u H Q) : XE X ρ (.UnaryOp op a pos) (.v z) :=
  PE.imp (pe_un ho ha) fun σ H Q ⟨Bv, Bs, Hv, g, k⟩ => ⟨Bv, Bs, Hv, g, fun v1 H1 Hv1 g1 e1 r1 => by
    rw [rp_v r1]
    exact hr _ _ (k z H1 Hv1 g1 e1 rp_v')⟩
variable {i j : Int}
theorem r2_I0 {f : Int → Int → V} : R2v (rI0 f) (.int i) (.int j) (f i j) := fun _ _ q => ⟨i, j, rfl, rfl, q⟩
theorem r2_I {C : Int → Int → Prop} {f : Int → Int → V} (h : C i j) : R2v (rI C f) (.int i) (.int j) (f i j) := fun _ _ q => ⟨i, j, rfl, rfl, h, q⟩
theorem xe_add (ha : XE X ρ a (.int i)) (hb : XE X ρ b (.int j)) : XE X ρ (.BinOp a .Add b pos) (.int (i + j)) := xe_op op_add ha hb r2_I0
theorem xe_sub (ha : XE X ρ a (.int i)) (hb : XE X ρ b (.int j)) : XE X ρ (.BinOp a .Sub b pos) (.int (i - j)) := xe_op op_sub ha hb r2_I0
theorem xe_mul (ha : XE X ρ a (.int i)) (hb : XE X ρ b (.int j)) (h : CMul i j) : XE X ρ (.BinOp a .Mult b pos) (.int (i * j)) := xe_op op_mul ha hb (r2_I h)
theorem xe_fdiv (ha : XE X ρ a (.int i)) (hb : XE X ρ b (.int j)) (h : CDiv i j) : XE X ρ (.BinOp a .FloorDiv b pos) (.int (i / j)) := xe_op op_fdiv ha hb (r2_I h)
theorem xe_mod (ha : XE X ρ a (.int i)) (hb : XE X ρ b (.int j)) (h : 0 < j) : XE X ρ (.BinOp a .Mod b pos) (.int (i % j)) := xe_op op_mod ha hb (r2_I (C := fun _ j => 0 < j) h)
theorem xe_pow (ha : XE X ρ a (.int i)) (hb : XE X ρ b (.int j)) (h : CPow i j) : XE X ρ (.BinOp a .Pow b pos) (.int (i ^ j.toNat)) := xe_op op_pow ha hb (r2_I h)
theorem xe_shl (ha : XE X ρ a (.int i)) (hb : XE X ρ b (.int j)) (h : CPow i j) : XE X ρ (.BinOp a .LShift b pos) (.int (i * 2 ^ j.toNat)) := xe_op op_shl ha hb (r2_I h)
theorem xe_shr (ha : XE X ρ a (.int i)) (hb : XE X ρ b (.int j)) (h : 0 ≤ j) : XE X ρ (.BinOp a .RShift b pos) (.int (i / 2 ^ j.toNat)) := xe_op op_shr ha hb (r2_I (C := fun _ j => 0 ≤ j) h)
theorem xe_and (ha : XE X ρ a (.int i)) (hb : XE X ρ b (.int j)) : XE X ρ (.BinOp a .BitAnd b pos) (.int (Builtin.bitAnd i j)) := xe_op op_and ha hb r2_I0
theorem xe_or (ha : XE X ρ a (.int i)) (hb : XE X ρ b (.int j)) : XE X ρ (.BinOp a .BitOr b pos) (.int (Builtin.bitOr i j)) := xe_op op_or ha hb r2_I0
theorem xe_xor (ha : XE X ρ a (.int i)) (hb : XE X ρ b (.int j)) : XE X ρ (.BinOp a .BitXor b pos) (.int (Builtin.bitXor i j)) := xe_op op_xor ha hb r2_I0
theorem xe_neg (ha : XE X ρ a (.int i)) : XE X ρ (.UnaryOp .USub a pos) (.int (-i)) := xe_un un_neg ha fun _ _ q => ⟨i, rfl, q⟩
theorem xe_cat {s t : Str} (ha : XE X ρ a (.str s)) (hb : XE X ρ b (.str t)) (h : s.length + t.length ≤ sizeLine) : XE X ρ (.BinOp a .Add b pos) (.str (s ++ t)) := xe_op op_add_str ha hb fun _ _ q => ⟨s, t, rfl, rfl, h, q⟩

/-! ### comparisons -/
theorem xw_cmp {op : CmpOp} {r : R2} {u w z : V} (ho : OpR X (compareOp op) r) (ha : XW X ρ a (.v u)) (hb : XW X ρ b (.v w)) (hr : R2v r u w z) (hm : behindInMarks op b = false) : XE X ρ (.Compare a [op] [b] pos) (.v z) :=
  PE.imp (pe_cmpR ho ha hb hm) fun σ H Q ⟨Bv, Bs, Hv, g, k⟩ => ⟨Bv, Bs, Hv, g, fun v1 H1 Hv1 g1 e1 r1 => ⟨Bv, Bs, Hv1, g1, fun v2 H2 Hv2 g2 e2 r2 => by
    rw [rp_v r1, rp_v r2]
    exact hr _ _ (k z H2 Hv2 g2 (e1.trans e2) rp_v')⟩⟩
theorem xt_cmp {op : CmpOp} {r : R2} {u w : V} {c : Bool} (ho : OpR X (compareOp op) r) (ha : XE X ρ a (.v u)) (hb : XE X ρ b (.v w)) (hr : R2v r u w (.bl c)) (hm : behindInMarks op b = false) : XT X ρ (.Compare a [op] [b] pos) c :=
  PT.imp (pt_cmpR ho ha hb hm) fun σ H Q ⟨Bv, Bs, Hv, g, k⟩ => ⟨Bv, Bs, Hv, g, fun v1 H1 Hv1 g1 e1 r1 => ⟨Bv, Bs, Hv1, g1, fun v2 H2 Hv2 g2 e2 r2 => by
    rw [rp_v r1, rp_v r2]
    exact hr _ _ ⟨c, rfl, k H2 Hv2 g2 (e1.trans e2)⟩⟩⟩
/-- what a comparison of plain values gives -/
inductive Cmp : CmpOp → V → V → Bool → Prop where
  | lt (i j : Int) : Cmp .Lt (.int i) (.int j) (decide (i < j))
  | le (i j : Int) : Cmp .LtE (.int i) (.int j) (decide (i ≤ j))
  | gt (i j : Int) : Cmp .Gt (.int i) (.int j) (decide (j < i))
  | ge (i j : Int) : Cmp .GtE (.int i) (.int j) (decide (j ≤ i))
  | eqI (i j : Int) : Cmp .Eq (.int i) (.int j) (decide (i = j))
  | neI (i j : Int) : Cmp .NotEq (.int i) (.int j) (!decide (i = j))
  | eqS (i j : Str) : Cmp .Eq (.str i) (.str j) (decide (i = j))
  | neS (i j : Str) : Cmp .NotEq (.str i) (.str j) (!decide (i = j))
  | eqB (i j : Bool) : Cmp .Eq (.bl i) (.bl j) (i == j)
  | neB (i j : Bool) : Cmp .NotEq (.bl i) (.bl j) (!(i == j))
  | isB (i j : Bool) : Cmp .Is (.bl i) (.bl j) (decide (i = j))
  | notB (i j : Bool) : Cmp .IsNot (.bl i) (.bl j) (!decide (i = j))
  | isN (x : V) : Cmp .Is x .non (decide (x = .non))
  | notN (x : V) : Cmp .IsNot x .non (!decide (x = .non))
theorem dec_int' {i j : Int} : decide (V.int i = V.int j) = decide (i = j) := by
  by_cases h : i = j
  · subst h
    simp
  · simp [h]
theorem dec_str' {i j : Str} : decide (V.str i = V.str j) = decide (i = j) := by
  by_cases h : i = j
  · subst h
    simp
  · simp [h]
theorem Cmp.rule {op : CmpOp} {u w : V} {c : Bool} (h : Cmp op u w c) : ∃ r : R2, OpR X (compareOp op) r ∧ R2v r u w (.bl c) ∧ op ≠ .In ∧ op ≠ .NotIn := by
  cases h with
  | lt i j => exact ⟨_, op_lt, r2_I0, by decide, by decide⟩
  | le i j => exact ⟨_, op_le, r2_I0, by decide, by decide⟩
  | gt i j => exact ⟨_, op_gt, r2_I0, by decide, by decide⟩
  | ge i j => exact ⟨_, op_ge, r2_I0, by decide, by decide⟩
  | eqI i j => exact ⟨_, op_eq, fun _ _ q => ⟨rfl, by rw [dec_int']; exact q⟩, by decide, by decide⟩
  | neI i j => exact ⟨_, op_ne, fun _ _ q => ⟨rfl, by rw [dec_int']; exact q⟩, by decide, by decide⟩
  | eqS i j => exact ⟨_, op_eq, fun _ _ q => ⟨rfl, by rw [dec_str']; exact q⟩, by decide, by decide⟩
  | neS i j => exact ⟨_, op_ne, fun _ _ q => ⟨rfl, by rw [dec_str']; exact q⟩, by decide, by decide⟩
  | eqB i j => exact ⟨_, op_eq, fun _ _ q => ⟨rfl, by rw [dec_bl]; exact q⟩, by decide, by decide⟩
  | neB i j => exact ⟨_, op_ne, fun _ _ q => ⟨rfl, by rw [dec_bl]; exact q⟩, by decide, by decide⟩
  | isB i j => exact ⟨_, op_is_bl, fun _ _ q => ⟨i, j, rfl, rfl, q⟩, by decide, by decide⟩
  | notB i j => exact ⟨_, op_isnot_bl, fun _ _ q => ⟨i, j, rfl, rfl, q⟩, by decide, by decide⟩
  | isN x => exact ⟨_, op_isN, fun _ _ q => ⟨rfl, q⟩, by decide, by decide⟩
  | notN x => exact ⟨_, op_notN, fun _ _ q => ⟨rfl, q⟩, by decide, by decide⟩
theorem xe_cmp {op : CmpOp} {u w : V} {c : Bool} (ha : XE X ρ a (.v u)) (hb : XE X ρ b (.v w)) (h : Cmp op u w c) : XE X ρ (.Compare a [op] [b] pos) (.bl c) := by
  obtain ⟨r, h1, h2, h3, h4⟩ := h.rule (X := X)
  exact xw_cmp h1 ha.w hb.w h2 (nomark _ h3 h4)
theorem xt_cmpv {op : CmpOp} {u w : V} {c : Bool} (ha : XE X ρ a (.v u)) (hb : XE X ρ b (.v w)) (h : Cmp op u w c) : XT X ρ (.Compare a [op] [b] pos) c := by
  obtain ⟨r, h1, h2, h3, h4⟩ := h.rule (X := X)
  exact xt_cmp h1 ha hb h2 (nomark _ h3 h4)

/-! ### tests -/
theorem xt_val {c : Bool} (h : XE X ρ e (.bl c)) (he : ∀ whole, isTrue e X.env whole = (do let v ← whole; standAt e.pos; holding [v] (truthy v)) := by intro _; rfl) : XT X ρ e c :=
  PT.imp (pt_val h he) fun σ H Q ⟨Bv, Bs, Hv, g, k⟩ => ⟨Bv, Bs, Hv, g, fun v1 H1 Hv1 g1 e1 r1 => ⟨c, rp_v r1, k H1 Hv1 g1 e1⟩⟩
theorem xt_not {c : Bool} (h : XT X ρ a c) : XT X ρ (.UnaryOp .Not a pos) (!c) :=
  PT.imp (pt_not h) fun σ H Q ⟨Bv, Bs, Hv, g, k⟩ => ⟨Bv, Bs, Hv, g, fun H1 Hv1 g1 e1 => k H1 Hv1 g1 e1⟩
theorem xv_and1 {c : Bool} (h : XT X ρ a c) : XV X ρ (.BoolOp .And [a] pos) c := pw_and1 h
theorem xv_or1 {c : Bool} (h : XT X ρ a c) : XV X ρ (.BoolOp .Or [a] pos) c := pw_or1 h
theorem xv_and {c k : Bool} {rest : List Expr} (h : XT X ρ a c) (h2 : c = true → XV X ρ (.BoolOp .And (b :: rest) pos) k) : XV X ρ (.BoolOp .And (a :: b :: rest) pos) (c && k) := by
  cases c with
  | true =>
    exact PW.imp (pw_and h (h2 rfl)) fun σ H Q ⟨Bv, Bs, Hv, g, k⟩ => ⟨Bv, Bs, Hv, g, fun H1 Hv1 g1 e1 => iteT ⟨Bv, Bs, Hv1, g1, fun H2 Hv2 g2 e2 => k H2 Hv2 g2 (e1.trans e2)⟩⟩
  | false =>
    exact PW.imp (pw_and h (b := b) (rest := rest) (tB' := fun _ _ _ => False) ⟨fun _ _ _ _ _ _ _ h => h.elim⟩) fun σ H Q ⟨Bv, Bs, Hv, g, k⟩ => ⟨Bv, Bs, Hv, g, fun H1 Hv1 g1 e1 => iteF (k H1 Hv1 g1 e1)⟩
theorem xv_or {c k : Bool} {rest : List Expr} (h : XT X ρ a c) (h2 : c = false → XV X ρ (.BoolOp .Or (b :: rest) pos) k) : XV X ρ (.BoolOp .Or (a :: b :: rest) pos) (c || k) := by
  cases c with
  | false =>
    exact PW.imp (pw_or h (h2 rfl)) fun σ H Q ⟨Bv, Bs, Hv, g, k⟩ => ⟨Bv, Bs, Hv, g, fun H1 Hv1 g1 e1 => iteF ⟨Bv, Bs, Hv1, g1, fun H2 Hv2 g2 e2 => k H2 Hv2 g2 (e1.trans e2)⟩⟩
  | true =>
    exact PW.imp (pw_or h (b := b) (rest := rest) (tB' := fun _ _ _ => False) ⟨fun _ _ _ _ _ _ _ h => h.elim⟩) fun σ H Q ⟨Bv, Bs, Hv, g, k⟩ => ⟨Bv, Bs, Hv, g, fun H1 Hv1 g1 e1 => iteT (k H1 Hv1 g1 e1)⟩
theorem XV.t {c : Bool} (h : XV X ρ e c) : XT X ρ e c := PW.pt h
/-- and, or, not as values -/
theorem xe_one {op : BoolOp} {c : V} (h : XE X ρ a (.v c)) : XE X ρ (.BoolOp op [a] pos) (.v c) := pe_one h
theorem xe_andV {c k : Bool} {rest : List Expr} (h : XE X ρ a (.bl c)) (h2 : c = true → XE X ρ (.BoolOp .And (b :: rest) pos) (.bl k)) : XE X ρ (.BoolOp .And (a :: b :: rest) pos) (.bl (c && k)) := by
  cases c with
  | true =>
    exact PE.imp (pe_and h (h2 rfl)) fun σ H Q ⟨Bv, Bs, Hv, g, k⟩ => ⟨Bv, Bs, Hv, g, fun v1 H1 Hv1 g1 e1 r1 => ⟨true, rp_v r1, iteT ⟨Bv, Bs, Hv1, g1, fun v2 H2 Hv2 g2 e2 r2 => k v2 H2 Hv2 g2 (e1.trans e2) r2⟩⟩⟩
  | false =>
    exact PE.imp (pe_and h (b := b) (rest := rest) (tb := fun _ _ _ => False) ⟨fun _ _ _ _ _ _ h => h.elim⟩) fun σ H Q ⟨Bv, Bs, Hv, g, k⟩ => ⟨Bv, Bs, Hv, g, fun v1 H1 Hv1 g1 e1 r1 => ⟨false, rp_v r1, iteF (k _ H1 Hv1 g1 e1 rp_v')⟩⟩
theorem xe_orV {c k : Bool} {rest : List Expr} (h : XE X ρ a (.bl c)) (h2 : c = false → XE X ρ (.BoolOp .Or (b :: rest) pos) (.bl k)) : XE X ρ (.BoolOp .Or (a :: b :: rest) pos) (.bl (c || k)) := by
  cases c with
  | false =>
    exact PE.imp (pe_or h (h2 rfl)) fun σ H Q ⟨Bv, Bs, Hv, g, k⟩ => ⟨Bv, Bs, Hv, g, fun v1 H1 Hv1 g1 e1 r1 => ⟨false, rp_v r1, iteF ⟨Bv, Bs, Hv1, g1, fun v2 H2 Hv2 g2 e2 r2 => k v2 H2 Hv2 g2 (e1.trans e2) r2⟩⟩⟩
  | true =>
    exact PE.imp (pe_or h (b := b) (rest := rest) (tb := fun _ _ _ => False) ⟨fun _ _ _ _ _ _ h => h.elim⟩) fun σ H Q ⟨Bv, Bs, Hv, g, k⟩ => ⟨Bv, Bs, Hv, g, fun v1 H1 Hv1 g1 e1 r1 => ⟨true, rp_v r1, iteT (k _ H1 Hv1 g1 e1 rp_v')⟩⟩
theorem xe_notV {c : Bool} (h : XE X ρ a (.bl c)) : XE X ρ (.UnaryOp .Not a pos) (.bl (!c)) :=
  PE.imp (pe_not h) fun σ H Q ⟨Bv, Bs, Hv, g, k⟩ => ⟨Bv, Bs, Hv, g, fun v1 H1 Hv1 g1 e1 r1 => ⟨c, rp_v r1, k _ H1 Hv1 g1 e1 rp_v'⟩⟩
/-! ### arguments, tuples, lists -/
theorem xa_nil : XA X ρ [] [] := PA.imp pa_nil fun σ H Q ⟨Bv, Bs, Hv, g, k⟩ => k [] H Hv g (Vx.refl g.vx.vh) rpL_nil
theorem xa_cons {es : List Expr} {ds : List D} (h : XE X ρ e d) (t : XA X ρ es ds) (hs : starEach (e :: es) X.env = (false, eval e X.env) :: starEach es X.env := by rfl) : XA X ρ (e :: es) (d :: ds) :=
  PA.imp (pa_cons h t hs) fun σ H Q ⟨Bv, Bs, Hv, g, k⟩ => ⟨Bv, Bs, Hv, g, fun v1 H1 Hv1 g1 e1 r1 => ⟨Bv, Bs, Hv1, g1, fun vs H2 Hv2 g2 e2 r2 => k (v1 :: vs) H2 Hv2 g2 (e1.trans e2) (rpL_cons (rp_mono e2.vv r1) r2)⟩⟩
theorem xaw_nil : XAw X ρ [] [] := PA.imp pa_nil fun σ H Q ⟨Bv, Bs, Hv, g, k⟩ => k [] H Hv g (Vx.refl g.vx.vh) rpL_nil
theorem xaw_cons {es : List Expr} {ds : List D} (h : XW X ρ e d) (t : XAw X ρ es ds) (hs : starEach (e :: es) X.env = (false, eval e X.env) :: starEach es X.env := by rfl) : XAw X ρ (e :: es) (d :: ds) :=
  PA.imp (pa_cons h t hs) fun σ H Q ⟨Bv, Bs, Hv, g, k⟩ => ⟨Bv, Bs, Hv, g, fun v1 H1 Hv1 g1 e1 r1 => ⟨Bv, Bs, Hv1, g1, fun vs H2 Hv2 g2 e2 r2 => k (v1 :: vs) H2 Hv2 g2 (e1.trans e2) (rpL_cons (rp_mono e2.hh r1) r2)⟩⟩
theorem XA.w {es : List Expr} {ds : List D} (h : XA X ρ es ds) : XAw X ρ es ds := PA.imp h fun σ H Q ⟨Bv, Bs, Hv, g, k⟩ => ⟨Bv, Bs, Hv, g, fun v H' Hv' g' e1 r => k v H' Hv' g' e1 (rpL_mono g'.vx.vh r)⟩
/-- a new object lies in the view -/
theorem Sg.newV {K : PySem.W.Frag} {Bv Bs Hv H : Hp} {σ : L2.St} {p : Addr} {o : HO} (g : Sg K Bv Bs Hv H ρ σ) (h : H p = none) : Sg K Bv Bs (L2.upd Hv p o) (L2.upd H p o) ρ σ := by
  have h1 : Hv p = none := Evl.fresh_back g.vx.vh h
  refine g.go ⟨Ex.new h1, Ex.new h, fun a u e => ?_, fun a u e => ?_⟩
  · by_cases z : a = p
    · subst z
      rw [upd_same] at e ⊢
      exact e
    · rw [upd_ne z] at e ⊢
      exact g.vx.vh a u e
  · by_cases z : a = p
    · subst z
      exact .inr h
    · rw [upd_ne z] at e
      exact .inl e
/-- a new object lies in the heap alone -/
theorem Sg.newH {K : PySem.W.Frag} {Bv Bs Hv H : Hp} {σ : L2.St} {p : Addr} {o : HO} (g : Sg K Bv Bs Hv H ρ σ) (h : H p = none) : Sg K Bv Bs Hv (L2.upd H p o) ρ σ :=
  g.go ⟨Ex.refl _, Ex.new h, g.vx.vh.trans (Ex.new h), fun a u e => .inl e⟩
theorem xe_tup {es : List Expr} {ds : List D} {x1} (h : XA X ρ es ds) (hl : ds.length ≤ 1000 := by simp only [List.length_cons, List.length_nil]; decide) : XE X ρ (.Tuple es x1 pos) (.tup ds) :=
  PE.imp (pe_tup h) fun σ H Q ⟨Bv, Bs, Hv, g, k⟩ => ⟨Bv, Bs, Hv, g, fun vs H1 Hv1 g1 e1 r1 => ⟨by
    rw [rpL_len r1]
    exact Evl.sz_of (by omega), fun p hp => by
    have n1 : Hv1 p = none := Evl.fresh_back g1.vx.vh hp
    refine k _ _ _ (g1.newV hp) (e1.trans (Vx.newV g1.vx.vh hp)) ?_
    unfold Rp
    exact ⟨p, vs, rfl, .inl (.inl upd_same), rpL_mono (Ex.new n1) r1⟩⟩⟩
theorem xo_lst {es : List Expr} {ds : List D} (h : XA X ρ es ds) (hl : ds.length ≤ 1000 := by simp only [List.length_cons, List.length_nil]; decide) : XO X ρ (.List es pos) ds :=
  PE.imp (pe_lst h) fun σ H Q ⟨Bv, Bs, Hv, g, k⟩ => ⟨Bv, Bs, Hv, g, fun vs H1 Hv1 g1 e1 r1 => ⟨by
    rw [rpL_len r1]
    exact Evl.sz_of (by omega), fun p hp => by
    have n1 : Hv1 p = none := Evl.fresh_back g1.vx.vh hp
    exact k p vs _ _ (g1.newH hp) (e1.trans (Vx.newH g1.vx.vh hp)) (Evl.fresh_back g1.vx.hh hp) n1 upd_same r1 (g1.notOwn_new hp) (Evl.fresh_back e1.hh hp)⟩⟩
end
end PL
namespace PL
open PySem PySem.Spec L2
open Evl (Ex)

/-- nothing is let out -/
theorem passN {X : Cx} : Passes (L2N.CX X.prog X.w) X E0 := fun _ _ _ _ _ _ _ h => by
  obtain ⟨_, _, _, _, _, _, _, _, _, _, _, _, z⟩ := h
  exact z.elim
open PyProof.Rows in
theorem okN {P : Program} {w : World} {K : PySem.W.Frag} {mg : Str → Option Value} {base : Heap} {x qual : Str} {st : Stmt} {f : Addr} {fd : FuncData} {N ps : List Str} {k : Nat} {sp : Sp} (F : Fun K x qual st f fd) (S : FnScope N ps (defScope st)) (len : ∀ vs H Q E, sp vs H Q E → vs.length = ps.length)
    (hbody : ∀ (cdv : Value) (A : Around) (outer : List Env) (s : Shared) (H : Hp) (vs : List V) (Q : VK) (E : XK), Room k (A.deeper (envOfC qual (defScope st) s.heap.objs.size f cdv)) → sp vs H Q E →
      ∃ t, PSs (cxOf (L2N.CX P w) P w K mg base N qual (defScope st) f cdv A outer s H E) (defBody st) t ∧ t { nx := fun _ H' => Q .non H', rt := Q } (start N vs) H) : FnOk P w K mg base (L2N.CX P w) (k + 1) f fd ps sp := by
  obtain ⟨oc, od, kV, doc, pm, an, cdv, ct, osl, rfl, lk, hcd⟩ := F.ex
  exact fn_of lk hcd S len fun A outer s H vs Q E hr hsp => hbody cdv A outer s H vs Q E hr hsp
/-! ### what a def gives -/
inductive Ro where
  | val (d : D)
  /-- a new list -/
  | fr (l : List D)
  /-- an exception of the class at C, its own fields -/
  | exc (C : Addr) (ns : List Str) (ds : List D)
  /-- a pair; lists in it may be new ones -/
  | frP (a b : E)
  | bad
/-- an item of a new pair: data, or a list that nothing else names -/
def AtN (K : PySem.W.Frag) (H Hv' H' : Hp) : E → V → Prop
  | .val d, v => Rp K Hv' d v
  | .own l, v => ∃ q ys, v = .ref q ∧ H q = none ∧ Hv' q = none ∧ H' q = some (.lst ys) ∧ RpL K Hv' l ys
  | _, _ => False
def Sep2 (a b : E) (x y : V) : Prop := isOwn a = true → isOwn b = true → x ≠ y
def FinR (K : PySem.W.Frag) (Hv H : Hp) (Q : VK) (E : XK) : Ro → Prop
  | .val d => ∀ v H' Hv', Vx Hv H Hv' H' → Rp K Hv' d v → Q v H'
  | .fr l => ∀ p xs H' Hv', Vx Hv H Hv' H' → H p = none → Hv' p = none → H' p = some (.lst xs) → RpL K Hv' l xs → Q (.ref p) H'
  | .exc C ns ds => ∀ od H' Hv', Vx Hv H Hv' H' → ExAt K Hv' ns ds od → E (.ref C) od H'
  | .frP a b => ∀ p x y H' Hv', Vx Hv H Hv' H' → Hv' p = some (.tup [x, y]) → AtN K H Hv' H' a x → AtN K H Hv' H' b y → Sep2 a b x y → Q (.ref p) H'
  | .bad => False
def spD (K : PySem.W.Frag) (n : Nat) (φ : List D → Ro) : Sp := fun vs H Q E => ∃ Hv ds, Ex Hv H ∧ RpL K Hv ds vs ∧ ds.length = n ∧ FinR K Hv H Q E (φ ds)
structure FnC (P : Program) (w : World) (K : PySem.W.Frag) (mg : Str → Option Value) (base : Heap) (x : Str) (k n : Nat) (φ : List D → Ro) : Prop where
  ex : ∃ f fd ps, mg x = some (.ref f) ∧ FnOk P w K mg base (L2N.CX P w) k f fd ps (spD K n φ) ∧ PySem.W.keepIn K (.ref f) = true ∧ Binds K fd ps []

/-- what stands around a body -/
structure Bd (X : Cx) (W : WX) (k : Nat) : Prop where
  nd : X.N.Nodup
  calm : X.calm = true
  room : Room k X.A
  po : PassesOwn (model X.prog X.w) X.A X.env X.xe
  tk : L2N.Takes X W
  fn : ∀ x, X.fn x = true

section
variable {X : Cx} {ρ ρ' : List E} {e a b : Expr} {es : List Expr} {d : D} {ds l : List D} {pos p : Pos} {s : Str} {k n : Nat} {φ : List D → Ro}

theorem xe_call (F : FnC X.prog X.w X.K X.mg X.base s k n φ) (hr : Room k X.A) (hg : Gl X s) (ha : XA X ρ (e :: es) ds) (hn : ds.length = n) (hφ : φ ds = .val d) (hdb : (s == ("__debug__" : Str)) = false := by decide)
    (he : starEach (e :: es) X.env = (false, eval e X.env) :: starEach es X.env := by rfl) (hpl : (backTo pos (starEach es X.env)).any (·.1) = false := by rfl) : XE X ρ (.Call (.Name s p) (e :: es) [] pos) d := by
  obtain ⟨f, fd, ps, hm, F, hk, hb⟩ := F.ex
  refine PE.imp (pe_call F hr hg hm hk hb .nil (passN (X := X)) ha hdb he hpl) fun σ H Q ⟨Bv, Bs, Hv, g, k⟩ => ⟨Bv, Bs, Hv, g, fun vs H1 Hv1 g1 e1 r1 => ?_⟩
  refine ⟨Hv1, ds, g1.vx.vh, by rw [List.append_nil]; exact r1, hn, ?_⟩
  rw [hφ]
  exact fun v H' Hv' x r => k v H' Hv' (g1.go x) (e1.trans x) r
/-- an expression that raises -/
def tX (K : PySem.W.Frag) (W : WX) (ρ : List E) (C : Addr) (ns : List Str) (ds : List D) : TE := fun σ H _ => ∃ Bv Bs Hv, Sg K Bv Bs Hv H ρ σ ∧ ∀ od H' Hv', Sg K Bv Bs Hv' H' ρ σ → ExAt K Hv' ns ds od → W (.ref C) od σ H'
abbrev XX (X : Cx) (W : WX) (ρ : List E) (e : Expr) (C : Addr) (ns : List Str) (ds : List D) : Prop := PE X e (tX X.K W ρ C ns ds)
theorem xx_call {W : WX} {C : Addr} {ns : List Str} {xs : List D} (F : FnC X.prog X.w X.K X.mg X.base s k n φ) (hr : Room k X.A) (tk : L2N.Takes X W) (hg : Gl X s) (ha : XA X ρ (e :: es) ds) (hn : ds.length = n) (hφ : φ ds = .exc C ns xs) (hdb : (s == ("__debug__" : Str)) = false := by decide)
    (he : starEach (e :: es) X.env = (false, eval e X.env) :: starEach es X.env := by rfl) (hpl : (backTo pos (starEach es X.env)).any (·.1) = false := by rfl) : XX X W ρ (.Call (.Name s p) (e :: es) [] pos) C ns xs := by
  obtain ⟨f, fd, ps, hm, F, hk, hb⟩ := F.ex
  refine PE.imp (pe_callS F hr hg hm hk hb (fun σ => L2N.passAt tk σ) ha hdb he hpl) fun σ H Q ⟨Bv, Bs, Hv, g, k⟩ => ⟨Bv, Bs, Hv, g, fun vs H1 Hv1 g1 e1 r1 => ?_⟩
  refine ⟨Hv1, ds, g1.vx.vh, r1, hn, ?_⟩
  rw [hφ]
  exact fun od H' Hv' x r => k od H' Hv' (g1.go x) r

/-! ### subscripts, len, slices -/
theorem rp_lst {K : PySem.W.Frag} {H : Hp} {u : V} (h : Rp K H (.lst l) u) : ∃ a xs, u = .ref a ∧ SqL K H a xs ∧ RpL K H l xs := by
  unfold Rp at h
  exact h
theorem rp_tup {K : PySem.W.Frag} {H : Hp} {u : V} (h : Rp K H (.tup l) u) : ∃ a xs, u = .ref a ∧ SqT K H a xs ∧ RpL K H l xs := by
  unfold Rp at h
  exact h
theorem atI_rel {K : PySem.W.Frag} {H : Hp} {xs : List V} {i : Int} (r : RpL K H l xs) (h : atI l i = some d) : ∃ v, atI xs i = some v ∧ Rp K H d v := by
  have hl := rpL_len r
  unfold atI at h ⊢
  rw [hl]
  cases q : ixN l.length i with
  | none =>
    rw [q] at h
    cases h
  | some j =>
    rw [q] at h
    exact rpL_get r h
theorem xe_ixL {i : Int} (ha : XE X ρ a (.lst l)) (hb : XE X ρ b (.int i)) (hi : atI l i = some d) (hs : PlainIx b := by exact fun _ _ => rfl) : XE X ρ (.Subscript a b pos) d :=
  PE.imp (pe_ix ix_list ha hb hs) fun σ H Q ⟨Bv, Bs, Hv, g, k⟩ => ⟨Bv, Bs, Hv, g, fun v1 H1 Hv1 g1 e1 r1 => ⟨Bv, Bs, Hv1, g1, fun v2 H2 Hv2 g2 e2 r2 => by
    obtain ⟨q, xs, rfl, h1, h2⟩ := rp_lst (rp_mono e2.vv r1)
    obtain ⟨v, h3, h4⟩ := atI_rel h2 hi
    exact ⟨q, xs, i, v, rfl, rp_v r2, Evl.ex_l g2.vx.vh h1, h3, k v H2 Hv2 g2 (e1.trans e2) h4⟩⟩⟩
theorem xe_ixT {i : Int} (ha : XE X ρ a (.tup l)) (hb : XE X ρ b (.int i)) (hi : atI l i = some d) (hs : PlainIx b := by exact fun _ _ => rfl) : XE X ρ (.Subscript a b pos) d :=
  PE.imp (pe_ix ix_tup ha hb hs) fun σ H Q ⟨Bv, Bs, Hv, g, k⟩ => ⟨Bv, Bs, Hv, g, fun v1 H1 Hv1 g1 e1 r1 => ⟨Bv, Bs, Hv1, g1, fun v2 H2 Hv2 g2 e2 r2 => by
    obtain ⟨q, xs, rfl, h1, h2⟩ := rp_tup (rp_mono e2.vv r1)
    obtain ⟨v, h3, h4⟩ := atI_rel h2 hi
    exact ⟨q, xs, i, v, rfl, rp_v r2, Evl.ex_t g2.vx.vh h1, h3, k v H2 Hv2 g2 (e1.trans e2) h4⟩⟩⟩
theorem xe_ixS {i : Int} {z : Str} {c : Nat} (ha : XE X ρ a (.str z)) (hb : XE X ρ b (.int i)) (hz : z.length ≤ sizeLine) (hi : atI z.cps.toList i = some c) (hs : PlainIx b := by exact fun _ _ => rfl) : XE X ρ (.Subscript a b pos) (.str ⟨#[c]⟩) :=
  PE.imp (pe_ix ix_str ha hb hs) fun σ H Q ⟨Bv, Bs, Hv, g, k⟩ => ⟨Bv, Bs, Hv, g, fun v1 H1 Hv1 g1 e1 r1 => ⟨Bv, Bs, Hv1, g1, fun v2 H2 Hv2 g2 e2 r2 =>
    ⟨z, i, c, rp_v r1, rp_v r2, hz, hi, k _ H2 Hv2 g2 (e1.trans e2) rp_v'⟩⟩⟩
/-- a built-in's call upon plain values -/
theorem xe_callB {r : List V → Hp → VK → Prop} {id : String} {us : List V} {z : V} (hc : CallR X (.builtin id) r) (hg : Gl X s) (hm : X.mg s = none) (hv : bootBuiltins s = some (.builtin id)) (ha : XA X ρ (e :: es) (us.map D.v)) (hr : ∀ H Q, Q z H → r us H Q)
    (hn : s ≠ "__name__" := by decide) (hdb : (s == ("__debug__" : Str)) = false := by decide) (he : starEach (e :: es) X.env = (false, eval e X.env) :: starEach es X.env := by rfl) (hpl : (backTo pos (starEach es X.env)).any (·.1) = false := by rfl) :
    XE X ρ (.Call (.Name s p) (e :: es) [] pos) (.v z) :=
  PE.imp (pe_callB hc hg hm hv ha hn hdb he hpl) fun σ H Q ⟨Bv, Bs, Hv, g, k⟩ => ⟨Bv, Bs, Hv, g, fun vs H1 Hv1 g1 e1 r1 => by
    rw [rpL_vs r1]
    exact hr _ _ (k z H1 Hv1 g1 e1 rp_v')⟩
theorem xe_callT {r : List V → Hp → VK → Prop} {id : String} {us : List V} {z : V} (hc : CallR X (.type id) r) (hg : Gl X s) (hm : X.mg s = none) (hv : bootBuiltins s = some (.type id)) (ha : XA X ρ (e :: es) (us.map D.v)) (hr : ∀ H Q, Q z H → r us H Q)
    (hn : s ≠ "__name__" := by decide) (hdb : (s == ("__debug__" : Str)) = false := by decide) (he : starEach (e :: es) X.env = (false, eval e X.env) :: starEach es X.env := by rfl) (hpl : (backTo pos (starEach es X.env)).any (·.1) = false := by rfl) :
    XE X ρ (.Call (.Name s p) (e :: es) [] pos) (.v z) :=
  PE.imp (pe_callTy hc hg hm hv ha hn hdb he hpl) fun σ H Q ⟨Bv, Bs, Hv, g, k⟩ => ⟨Bv, Bs, Hv, g, fun vs H1 Hv1 g1 e1 r1 => by
    rw [rpL_vs r1]
    exact hr _ _ (k z H1 Hv1 g1 e1 rp_v')⟩
theorem xe_lenL (hg : Gl X "len") (hm : X.mg "len" = none) (ha : XW X ρ e (.lst l)) (he : starEach (e :: []) X.env = (false, eval e X.env) :: starEach [] X.env := by rfl) (hpl : (backTo pos (starEach [] X.env)).any (·.1) = false := by rfl) : XE X ρ (.Call (.Name "len" p) [e] [] pos) (.int l.length) :=
  PE.imp (pe_callB call_len_seq hg hm PySem.boot_len (xaw_cons ha xaw_nil he) (he := he) (hpl := hpl)) fun σ H Q ⟨Bv, Bs, Hv, g, k⟩ => ⟨Bv, Bs, Hv, g, fun vs H1 Hv1 g1 e1 r1 => by
    obtain ⟨x, r, rfl, h1, h2⟩ := rpL_cons_inv r1
    rw [rpL_nil_inv h2]
    obtain ⟨q, xs, rfl, h3, h4⟩ := rp_lst h1
    refine ⟨q, xs, rfl, .inl h3, ?_⟩
    rw [rpL_len h4]
    exact k _ H1 Hv1 g1 e1 rp_v'⟩
theorem xe_lenT (hg : Gl X "len") (hm : X.mg "len" = none) (ha : XW X ρ e (.tup l)) (he : starEach (e :: []) X.env = (false, eval e X.env) :: starEach [] X.env := by rfl) (hpl : (backTo pos (starEach [] X.env)).any (·.1) = false := by rfl) : XE X ρ (.Call (.Name "len" p) [e] [] pos) (.int l.length) :=
  PE.imp (pe_callB call_len_seq hg hm PySem.boot_len (xaw_cons ha xaw_nil he) (he := he) (hpl := hpl)) fun σ H Q ⟨Bv, Bs, Hv, g, k⟩ => ⟨Bv, Bs, Hv, g, fun vs H1 Hv1 g1 e1 r1 => by
    obtain ⟨x, r, rfl, h1, h2⟩ := rpL_cons_inv r1
    rw [rpL_nil_inv h2]
    obtain ⟨q, xs, rfl, h3, h4⟩ := rp_tup h1
    refine ⟨q, xs, rfl, .inr h3, ?_⟩
    rw [rpL_len h4]
    exact k _ H1 Hv1 g1 e1 rp_v'⟩
theorem xe_lenS {z : Str} (hg : Gl X "len") (hm : X.mg "len" = none) (ha : XE X ρ e (.str z)) (hz : z.length ≤ sizeLine) (he : starEach (e :: []) X.env = (false, eval e X.env) :: starEach [] X.env := by rfl) (hpl : (backTo pos (starEach [] X.env)).any (·.1) = false := by rfl) : XE X ρ (.Call (.Name "len" p) [e] [] pos) (.int z.length) :=
  xe_callB (us := [.str z]) call_len_str hg hm PySem.boot_len (xa_cons ha xa_nil he) (fun _ _ q => ⟨z, rfl, hz, q⟩) (he := he) (hpl := hpl)
theorem xe_max2 {i j : Int} (hc : X.calm = true) (hg : Gl X "max") (hm : X.mg "max" = none) (ha : XA X ρ [a, b] [.int i, .int j]) (he : starEach [a, b] X.env = (false, eval a X.env) :: starEach [b] X.env := by rfl) (hpl : (backTo pos (starEach [b] X.env)).any (·.1) = false := by rfl) : XE X ρ (.Call (.Name "max" p) [a, b] [] pos) (.int (max i j)) :=
  xe_callB (us := [.int i, .int j]) (call_max2 hc) hg hm (by decide +kernel) ha (fun _ _ q => ⟨i, j, rfl, by
    rw [show (if j > i then j else i) = max i j by split <;> omega]
    exact q⟩) (he := he) (hpl := hpl)
theorem xe_min2 {i j : Int} (hc : X.calm = true) (hg : Gl X "min") (hm : X.mg "min" = none) (ha : XA X ρ [a, b] [.int i, .int j]) (he : starEach [a, b] X.env = (false, eval a X.env) :: starEach [b] X.env := by rfl) (hpl : (backTo pos (starEach [b] X.env)).any (·.1) = false := by rfl) : XE X ρ (.Call (.Name "min" p) [a, b] [] pos) (.int (min i j)) :=
  xe_callB (us := [.int i, .int j]) (call_min2 hc) hg hm (by decide +kernel) ha (fun _ _ q => ⟨i, j, rfl, by
    rw [show (if j < i then j else i) = min i j by split <;> omega]
    exact q⟩) (he := he) (hpl := hpl)
theorem xe_intB {c : Bool} (hg : Gl X "int") (hm : X.mg "int" = none) (ha : XE X ρ e (.bl c)) (he : starEach (e :: []) X.env = (false, eval e X.env) :: starEach [] X.env := by rfl) (hpl : (backTo pos (starEach [] X.env)).any (·.1) = false := by rfl) : XE X ρ (.Call (.Name "int" p) [e] [] pos) (.int (if c then 1 else 0)) :=
  xe_callT (us := [.bl c]) call_int1 hg hm (by decide +kernel) (xa_cons ha xa_nil he) (fun _ _ q => .inr ⟨c, rfl, q⟩) (he := he) (hpl := hpl)
end
end PL
namespace PL
open PySem PySem.Spec L2
open Evl (Ex)

/-! ### statements -/
inductive Out where
  | nx (ρ : List E)
  | ret (d : D)
  | retO (l : List D)
  | retP (a b : E)
  | bk (ρ : List E)
  | ct (ρ : List E)
  | exc (C : Addr) (ns : List Str) (ds : List D) (ρ : List E)
def Fin (K : PySem.W.Frag) (W : WX) (Bv Bs : Hp) (D : Ends) : Out → Prop
  | .nx ρ => ∀ σ H Hv, Sg K Bv Bs Hv H ρ σ → D.nx σ H
  | .ret d => ∀ v H Hv, Vx Bv Bs Hv H → Rp K Hv d v → D.rt v H
  | .retO l => ∀ p xs H Hv, Vx Bv Bs Hv H → Bs p = none → Hv p = none → H p = some (.lst xs) → RpL K Hv l xs → D.rt (.ref p) H
  | .retP a b => ∀ p x y H Hv, Vx Bv Bs Hv H → Hv p = some (.tup [x, y]) → AtN K Bs Hv H a x → AtN K Bs Hv H b y → Sep2 a b x y → D.rt (.ref p) H
  | .bk ρ => ∀ σ H Hv, Sg K Bv Bs Hv H ρ σ → D.bk σ H
  | .ct ρ => ∀ σ H Hv, Sg K Bv Bs Hv H ρ σ → D.ct σ H
  | .exc C ns ds ρ => ∀ od σ H Hv, Sg K Bv Bs Hv H ρ σ → ExAt K Hv ns ds od → W (.ref C) od σ H
def tS (K : PySem.W.Frag) (W : WX) (ρ : List E) (o : Out) : TS := fun D σ H => ∃ Bv Bs Hv, Sg K Bv Bs Hv H ρ σ ∧ Fin K W Bv Bs D o
abbrev XS (X : Cx) (W : WX) (ρ : List E) (st : Stmt) (o : Out) : Prop := PS X st (tS X.K W ρ o)
abbrev XB (X : Cx) (W : WX) (ρ : List E) (sts : List Stmt) (o : Out) : Prop := PSs X sts (tS X.K W ρ o)
/-- an outcome that does not go on -/
def Stop : Out → Prop
  | .nx _ => False
  | _ => True
/-- the ends for what follows -/
theorem Fin.seq {K : PySem.W.Frag} {W : WX} {Bv Bs : Hp} {D : Ends} {n : L2.St → Hp → Prop} {o : Out} (h : Fin K W Bv Bs D o) (s : Stop o) : Fin K W Bv Bs { D with nx := n } o := by
  cases o with
  | nx ρ => exact s.elim
  | _ => exact h

section
variable {X : Cx} {W : WX} {ρ ρ' ρ1 ρ2 : List E} {e a b c tg : Expr} {st : Stmt} {sts rest body : List Stmt} {es : List Expr} {d : D} {ds l : List D} {pos p p' : Pos} {s : Str} {k n : Nat} {o o1 : Out} {B : Bool}

theorem xb_nil : XB X W ρ [] (.nx ρ) := PSs.imp pss_nil fun D σ H ⟨Bv, Bs, Hv, g, k⟩ => k σ H Hv g
theorem xb_cons (h : XS X W ρ st (.nx ρ1)) (t : XB X W ρ1 rest o) : XB X W ρ (st :: rest) o :=
  PSs.imp (pss_cons h t) fun D σ H ⟨Bv, Bs, Hv, g, k⟩ => ⟨Bv, Bs, Hv, g, fun σ' H' Hv' g' => ⟨Bv, Bs, Hv', g', k⟩⟩
theorem xb_stop (h : XS X W ρ st o) (q : Stop o) : XB X W ρ (st :: rest) o :=
  PSs.imp (pss_cons h (u := tNever) pss_never) fun D σ H ⟨Bv, Bs, Hv, g, k⟩ => ⟨Bv, Bs, Hv, g, k.seq q⟩
theorem XS.wkO (h : XS X W ρ st (.nx ρ1)) (w : WkL ρ1 ρ2) : XS X W ρ st (.nx ρ2) := PS.imp h fun D σ H ⟨Bv, Bs, Hv, g, k⟩ => ⟨Bv, Bs, Hv, g, fun σ' H' Hv' g' => k σ' H' Hv' (g'.wk w)⟩
theorem XB.wkO (h : XB X W ρ sts (.nx ρ1)) (w : WkL ρ1 ρ2) : XB X W ρ sts (.nx ρ2) := PSs.imp h fun D σ H ⟨Bv, Bs, Hv, g, k⟩ => ⟨Bv, Bs, Hv, g, fun σ' H' Hv' g' => k σ' H' Hv' (g'.wk w)⟩
theorem XB.is (h : XB X W ρ sts o) (q : o = o1) : XB X W ρ sts o1 := q ▸ h
theorem XS.is (h : XS X W ρ st o) (q : o = o1) : XS X W ρ st o1 := q ▸ h
theorem xs_ret (h : XE X ρ e d) : XS X W ρ (.Return (some e) pos) (.ret d) := PS.imp (ps_ret h) fun D σ H ⟨Bv, Bs, Hv, g, k⟩ => ⟨Bv, Bs, Hv, g, fun v H' Hv' g' _ r => k v H' Hv' g'.vx r⟩
theorem xs_set (i : Nat) (hN : X.N.Nodup) (hi : X.N[i]? = some s) (hx : Loc X.env.scope s) (hf : X.fn s = true) (h : XE X ρ e d) (hs : swapsWith e (some (.Name s p')) pos.line X.env = pure false := by rfl) : XS X W ρ (.Assign [.Name s p'] e pos) (.nx (ρ.set i (.val d))) :=
  PS.imp (ps_set hN hi hx h hs (.inl hf)) fun D σ H ⟨Bv, Bs, Hv, g, k⟩ => ⟨Bv, Bs, Hv, g, fun v H' Hv' g' _ r => k _ H' Hv' (g'.set r)⟩
theorem xs_setO (i : Nat) (hN : X.N.Nodup) (hi : X.N[i]? = some s) (hx : Loc X.env.scope s) (hf : X.fn s = true) (h : XO X ρ e l) (hs : swapsWith e (some (.Name s p')) pos.line X.env = pure false := by rfl) : XS X W ρ (.Assign [.Name s p'] e pos) (.nx (ρ.set i (.own l))) :=
  PS.imp (ps_set hN hi hx h hs (.inl hf)) fun D σ H ⟨Bv, Bs, Hv, g, k⟩ => ⟨Bv, Bs, Hv, g, fun p xs H' Hv' g' _ h1 h2 h3 r h5 _ => k _ H' Hv' (g'.setOwn h1 h2 h3 r h5)⟩
/-- an if: one way -/
theorem xs_if (h : XT X ρ c B) (h1 : B = true → XB X W ρ sts o) (h2 : B = false → XB X W ρ rest o) : XS X W ρ (.If c sts rest pos) o := by
  cases B with
  | true => exact PS.imp (ps_if h (h1 rfl) (u := tNever) pss_never) fun D σ H ⟨Bv, Bs, Hv, g, k⟩ => ⟨Bv, Bs, Hv, g, fun H' Hv' g' _ => iteT ⟨Bv, Bs, Hv', g', k⟩⟩
  | false => exact PS.imp (ps_if h (t := tNever) pss_never (h2 rfl)) fun D σ H ⟨Bv, Bs, Hv, g, k⟩ => ⟨Bv, Bs, Hv, g, fun H' Hv' g' _ => iteF ⟨Bv, Bs, Hv', g', k⟩⟩
/-- an if without else that leaves; then the rest -/
theorem xb_if {more : List Stmt} (h : XT X ρ c B) (h1 : B = true → XB X W ρ sts o ∧ Stop o) (h2 : B = false → XB X W ρ more o) : XB X W ρ (.If c sts [] pos :: more) o := by
  cases B with
  | true => exact xb_stop (xs_if h (fun _ => (h1 rfl).1) nofun) (h1 rfl).2
  | false => exact xb_cons (xs_if h nofun fun _ => xb_nil) (h2 rfl)
/-- what raises -/
theorem xs_retX {C : Addr} {ns : List Str} (h : XX X W ρ e C ns ds) : XS X W ρ (.Return (some e) pos) (.exc C ns ds ρ) := PS.imp (ps_ret h) fun D σ H ⟨Bv, Bs, Hv, g, k⟩ => ⟨Bv, Bs, Hv, g, fun od H' Hv' g' x => k od σ H' Hv' g' x⟩
theorem xs_exprX {C : Addr} {ns : List Str} (h : XX X W ρ e C ns ds) (hs : swapsWith e none pos.line X.env = pure false := by rfl) : XS X W ρ (.Expr e pos) (.exc C ns ds ρ) := PS.imp (ps_expr h hs) fun D σ H ⟨Bv, Bs, Hv, g, k⟩ => ⟨Bv, Bs, Hv, g, fun od H' Hv' g' x => k od σ H' Hv' g' x⟩
theorem xs_setX {i : Nat} {C : Addr} {ns : List Str} (hN : X.N.Nodup) (hi : X.N[i]? = some s) (hx : Loc X.env.scope s) (hf : X.fn s = true) (h : XX X W ρ e C ns ds) (hs : swapsWith e (some (.Name s p')) pos.line X.env = pure false := by rfl) : XS X W ρ (.Assign [.Name s p'] e pos) (.exc C ns ds ρ) :=
  PS.imp (ps_set hN hi hx h hs (.inl hf)) fun D σ H ⟨Bv, Bs, Hv, g, k⟩ => ⟨Bv, Bs, Hv, g, fun od H' Hv' g' x => k od σ H' Hv' g' x⟩

/-! ### targets -/
def tG (K : PySem.W.Frag) (ρ : List E) (d : D) (ρ' : List E) : TG := fun v σ H Q => ∃ Bv Bs Hv, Sg K Bv Bs Hv H ρ σ ∧ Rp K Hv d v ∧ ∀ σ', Sg K Bv Bs Hv H ρ' σ' → Q σ' H
def tGs (K : PySem.W.Frag) (ρ : List E) (ds : List D) (ρ' : List E) : TGs := fun vs σ H Q => ∃ Bv Bs Hv, Sg K Bv Bs Hv H ρ σ ∧ RpL K Hv ds vs ∧ ∀ σ', Sg K Bv Bs Hv H ρ' σ' → Q σ' H
abbrev XG (X : Cx) (ρ : List E) (tg : Expr) (d : D) (ρ' : List E) : Prop := PG X tg (tG X.K ρ d ρ')
abbrev XGs (X : Cx) (ρ : List E) (tgs : List Expr) (ds : List D) (ρ' : List E) : Prop := PGs X tgs (tGs X.K ρ ds ρ')
theorem PGs.imp {tgs : List Expr} {t t' : TGs} (h : PGs X tgs t) (i : ∀ v σ H Q, t' v σ H Q → t v σ H Q) : PGs X tgs t' := ⟨fun pins s σ H v u Q I r w => h.run pins s σ H v u Q I r (i v σ H Q w)⟩
theorem xg_name (i : Nat) (hN : X.N.Nodup) (hi : X.N[i]? = some s) (hx : Loc X.env.scope s) (hf : X.fn s = true ∨ X.env.scope.names.lookup s = some .local) : XG X ρ (.Name s p) d (ρ.set i (.val d)) :=
  PG.imp (pg_name (i := i) hN hi hx hf) fun v σ H Q ⟨Bv, Bs, Hv, g, r, k⟩ => k _ (g.set r)
theorem xgs_nil : XGs X ρ [] [] ρ := PGs.imp pgs_nil fun v σ H Q ⟨Bv, Bs, Hv, g, r, k⟩ => ⟨rpL_nil_inv r, k _ g⟩
theorem xgs_cons {tgs : List Expr} (h : XG X ρ tg d ρ1) (t : XGs X ρ1 tgs ds ρ2) (hs : (assignEach (tg :: tgs) X.env).map (·.2) = assign tg X.env :: (assignEach tgs X.env).map (·.2) := by rfl) : XGs X ρ (tg :: tgs) (d :: ds) ρ2 :=
  PGs.imp (pgs_cons h t hs) fun v σ H Q ⟨Bv, Bs, Hv, g, r, k⟩ => by
    obtain ⟨x, r', rfl, h1, h2⟩ := rpL_cons_inv r
    exact ⟨x, r', rfl, Bv, Bs, Hv, g, h1, fun σ' g' => ⟨Bv, Bs, Hv, g', h2, k⟩⟩
theorem xg_tup {tgs : List Expr} {m : Nat} (hc : X.calm = true) (h : XGs X ρ tgs ds ρ') (hl : ds.length = n) (hn : (assignEach tgs X.env).length = n := by rfl) (hst : (assignEach tgs X.env).findIdx? (·.1) = none := by rfl) : XG X ρ (.Tuple tgs m p) (.tup ds) ρ' :=
  PG.imp (pg_tup hc h hn hst) fun v σ H Q ⟨Bv, Bs, Hv, g, r, k⟩ => by
    obtain ⟨q, xs, rfl, h1, h2⟩ := rp_tup r
    exact ⟨q, xs, rfl, Evl.ex_t g.vx.vh h1, by rw [rpL_len h2, hl], Bv, Bs, Hv, g, h2, k⟩
theorem xs_asg (h : XE X ρ e d) (hg : XG X ρ tg d ρ') (hs : swapsWithSole [tg] e pos.line X.env = pure false := by rfl) (hw : swappedStores [tg] e X.env = pure none := by rfl) (h1 : (assignEach [tg] X.env).map (·.2) = [assign tg X.env] := by rfl) : XS X W ρ (.Assign [tg] e pos) (.nx ρ') :=
  PS.imp (ps_asg h hg hs hw h1) fun D σ H ⟨Bv, Bs, Hv, g, k⟩ => ⟨Bv, Bs, Hv, g, fun v H' Hv' g' _ r => ⟨Bv, Bs, Hv', g', r, fun σ' g'' => k σ' H' Hv' g''⟩⟩
/-! ### while -/
inductive WhD (X : Cx) (W : WX) (c : Expr) (body : List Stmt) : Nat → List E → Out → Prop where
  | done {ρ : List E} (n : Nat) : XT X ρ c false → WhD X W c body n ρ (.nx ρ)
  | next {ρ ρ1 : List E} {o o1 : Out} {n : Nat} : XT X ρ c true → XB X W ρ body o1 → (o1 = .nx ρ1 ∨ o1 = .ct ρ1) → WhD X W c body n ρ1 o → WhD X W c body (n + 1) ρ o
  | brk {ρ ρ1 : List E} (n : Nat) : XT X ρ c true → XB X W ρ body (.bk ρ1) → WhD X W c body n ρ (.nx ρ1)
  | out {ρ : List E} {o : Out} (n : Nat) : XT X ρ c true → XB X W ρ body o → Stop o → (∀ ρ, o ≠ .bk ρ) → (∀ ρ, o ≠ .ct ρ) → WhD X W c body n ρ o
  | wk {ρ ρ1 : List E} {o : Out} {n : Nat} : WkL ρ ρ1 → WhD X W c body n ρ1 o → WhD X W c body n ρ o
theorem Fin.loop {K : PySem.W.Frag} {Bv Bs : Hp} {D : Ends} {N M : L2.St → Hp → Prop} {bk : L2.St → Hp → Prop} (h : Fin K W Bv Bs D o) (s : Stop o) (h1 : ∀ ρ, o ≠ .bk ρ) (h2 : ∀ ρ, o ≠ .ct ρ) : Fin K W Bv Bs { D with nx := N, ct := M, bk := bk } o := by
  cases o with
  | nx ρ => exact s.elim
  | bk ρ => exact (h1 ρ rfl).elim
  | ct ρ => exact (h2 ρ rfl).elim
  | _ => exact h
theorem ps_any (st : List Stmt) : PSs X st (fun D σ H => ∃ t : TS, PSs X st t ∧ t D σ H) := ⟨fun pins s σ H D I ⟨t, h, w⟩ => h.run pins s σ H D I w⟩
theorem pg_any (c : Expr) : PG X c (fun v σ H Q => ∃ t : TG, PG X c t ∧ t v σ H Q) := ⟨fun pins s σ H v u Q I r ⟨t, h, w⟩ => h.run pins s σ H v u Q I r w⟩
/-! ### for -/
/-- what is walked: its items as data -/
structure ItD (K : PySem.W.Frag) (Hv0 : Hp) (J : It) (ds : List D) : Prop where
  w : ∃ G Y, Walk J ds.length G Y ∧ (∀ H, Ex Hv0 H → G H) ∧ ∀ i H x H' Hv, Y i H x H' → Ex Hv0 Hv → Ex Hv H → i < ds.length → ∃ Hv' d, ds[i]? = some d ∧ Vx Hv H Hv' H' ∧ Rp K Hv' d x
def tI (K : PySem.W.Frag) (ρ : List E) (ds : List D) : TI := fun σ H R => ∃ Bv Bs Hv, Sg K Bv Bs Hv H ρ σ ∧ ∀ J H' Hv', Sg K Bv Bs Hv' H' ρ σ → Vx Hv H Hv' H' → ItD K Hv' J ds → R J H'
abbrev XI (X : Cx) (ρ : List E) (tg it : Expr) (ds : List D) : Prop := PI X tg it (tI X.K ρ ds)
theorem PI.imp {tg it : Expr} {t t' : TI} (h : PI X tg it t) (i : ∀ σ H R, t' σ H R → t σ H R) : PI X tg it t' := ⟨fun pins s σ H R I w => h.run pins s σ H R I (i σ H R w)⟩
inductive FoD (X : Cx) (W : WX) (tg : Expr) (body : List Stmt) : List D → List E → Out → Prop where
  | nil {ρ : List E} : FoD X W tg body [] ρ (.nx ρ)
  | next {ρ ρ1 ρ2 : List E} {o o1 : Out} {d : D} {ds : List D} : XG X ρ tg d ρ1 → XB X W ρ1 body o1 → (o1 = .nx ρ2 ∨ o1 = .ct ρ2) → FoD X W tg body ds ρ2 o → FoD X W tg body (d :: ds) ρ o
  | brk {ρ ρ1 ρ2 : List E} {d : D} {ds : List D} : XG X ρ tg d ρ1 → XB X W ρ1 body (.bk ρ2) → FoD X W tg body (d :: ds) ρ (.nx ρ2)
  | out {ρ ρ1 : List E} {o : Out} {d : D} {ds : List D} : XG X ρ tg d ρ1 → XB X W ρ1 body o → Stop o → (∀ ρ, o ≠ .bk ρ) → (∀ ρ, o ≠ .ct ρ) → FoD X W tg body (d :: ds) ρ o
  | wk {ρ ρ1 : List E} {o : Out} {ds : List D} : WkL ρ ρ1 → FoD X W tg body ds ρ1 o → FoD X W tg body ds ρ o
theorem FoD.end_ {Bv Bs : Hp} {D : Ends} {σ : L2.St} {H Hv : Hp} (h : FoD X W tg body ds ρ o) (e : ds = []) (g : Sg X.K Bv Bs Hv H ρ σ) (k : Fin X.K W Bv Bs D o) : D.nx σ H := by
  induction h with
  | nil => exact k _ _ _ g
  | wk w _ ih => exact ih e (g.wk w) k
  | next => cases e
  | brk => cases e
  | out => cases e
/-- the view of a later place as the start -/
structure Rb (Bv Bs Hv : Hp) : Prop where
  vv : Ex Bv Hv
  fr : ∀ a o, Hv a = some o → Bv a = some o ∨ Bs a = none
theorem Rb.of {K : PySem.W.Frag} {Bv Bs Hv H : Hp} {σ : L2.St} (g : Sg K Bv Bs Hv H ρ σ) : Rb Bv Bs Hv := ⟨g.vx.vv, g.vx.fr⟩
theorem Vx.unbase {Bv Bs Hv1 Hv H : Hp} (r : Rb Bv Bs Hv1) (x : Vx Hv1 Bs Hv H) : Vx Bv Bs Hv H := ⟨r.vv.trans x.vv, x.hh, x.vh, fun a o e => by
  rcases x.fr a o e with h | h
  · exact r.fr a o h
  · exact .inr h⟩
theorem Sg.unbase {K : PySem.W.Frag} {Bv Bs Hv1 Hv H : Hp} {σ : L2.St} (r : Rb Bv Bs Hv1) (g : Sg K Hv1 Bs Hv H ρ σ) : Sg K Bv Bs Hv H ρ σ := ⟨g.vx.unbase r, g.len, g.at_, g.sep⟩
theorem Sg.rebase {K : PySem.W.Frag} {Bv Bs Hv1 Hv H : Hp} {σ : L2.St} (r : Rb Bv Bs Hv1) (e : Ex Hv1 Hv) (g : Sg K Bv Bs Hv H ρ σ) : Sg K Hv1 Bs Hv H ρ σ := ⟨⟨e, g.vx.hh, g.vx.vh, fun a o q => by
  rcases g.vx.fr a o q with h | h
  · exact .inl (r.vv a o h)
  · exact .inr h⟩, g.len, g.at_, g.sep⟩
theorem Fin.rebase {K : PySem.W.Frag} {Bv Bs Hv1 : Hp} {D : Ends} (r : Rb Bv Bs Hv1) (h : Fin K W Bv Bs D o) : Fin K W Hv1 Bs D o := by
  cases o with
  | nx ρ => exact fun σ H Hv g => h σ H Hv (g.unbase r)
  | bk ρ => exact fun σ H Hv g => h σ H Hv (g.unbase r)
  | ct ρ => exact fun σ H Hv g => h σ H Hv (g.unbase r)
  | ret d => exact fun v H Hv x => h v H Hv (x.unbase r)
  | retO l => exact fun p xs H Hv x => h p xs H Hv (x.unbase r)
  | retP a b => exact fun p x y H Hv v => h p x y H Hv (v.unbase r)
  | exc C ns ds ρ => exact fun od σ H Hv g => h od σ H Hv (g.unbase r)
theorem fo_turn {Bv Bs : Hp} {D : Ends} {σ : L2.St} {H Hv : Hp} {v : V} {m : List PL.D} (f : FoD X W tg body m ρ o) (hm : m = d :: ds) (g : Sg X.K Bv Bs Hv H ρ σ) (r : Rp X.K Hv d v) (k : Fin X.K W Bv Bs D o) {N : L2.St → Hp → Prop}
    (hN : ∀ ρ σ H Hv, Sg X.K Bv Bs Hv H ρ σ → FoD X W tg body ds ρ o → N σ H) :
    ∃ t : TG, PG X tg t ∧ t v σ H fun σ2 H2 => ∃ u : TS, PSs X body u ∧ u { D with nx := N, ct := N, bk := D.nx } σ2 H2 := by
  induction f with
  | nil => cases hm
  | wk w _ ih => exact ih hm (g.wk w) k hN
  | next hg hb ho hn _ =>
    cases hm
    refine ⟨_, hg, Bv, Bs, Hv, g, r, fun σ2 g2 => ⟨_, hb, Bv, Bs, Hv, g2, ?_⟩⟩
    rcases ho with rfl | rfl
    · exact fun σ3 H3 Hv3 g3 => hN _ σ3 H3 Hv3 g3 hn
    · exact fun σ3 H3 Hv3 g3 => hN _ σ3 H3 Hv3 g3 hn
  | brk hg hb =>
    cases hm
    exact ⟨_, hg, Bv, Bs, Hv, g, r, fun σ2 g2 => ⟨_, hb, Bv, Bs, Hv, g2, k⟩⟩
  | out hg hb hs h1 h2 =>
    cases hm
    exact ⟨_, hg, Bv, Bs, Hv, g, r, fun σ2 g2 => ⟨_, hb, Bv, Bs, Hv, g2, k.loop hs h1 h2⟩⟩
theorem xs_for {it : Expr} (hp : PassesOwn (model X.prog X.w) X.A X.env X.xe) (hc : X.calm = true) (hi : XI X ρ tg it ds) (h : FoD X W tg body ds ρ o) (hs : ∀ x, foldedSetIterable it X.env x = pure x := by intro _; rfl) : XS X W ρ (.For tg it body [] pos) o :=
  PS.imp (ps_for hp hc hi (pg_any tg) (ps_any body) hs) fun D σ H ⟨Bv, Bs, Hv, g, k⟩ => ⟨Bv, Bs, Hv, g, fun J H1 Hv1 g1 e1 hJ => by
    obtain ⟨G, Y, w, hG, hY⟩ := hJ.w
    have rb : Rb Bv Bs Hv1 := Rb.of g1
    have k1 := k.rebase rb
    refine for_it w (g := fun v σ H Q => ∃ t : TG, PG X tg t ∧ t v σ H Q) (tb := fun D σ H => ∃ t : TS, PSs X body t ∧ t D σ H) (fun i σ H => ∃ Hv ρ, Sg X.K Hv1 Bs Hv H ρ σ ∧ FoD X W tg body (ds.drop i) ρ o) ⟨Hv1, ρ, g1.rebase rb (Ex.refl _), h⟩ (fun i σ H _ ⟨Hv, ρ, g, _⟩ => hG H (g.vx.vv.trans g.vx.vh)) (fun i x σ H H' hi ⟨Hv, ρ, g, f⟩ y => ?_) (fun σ H ⟨Hv, ρ, g, f⟩ => f.end_ (List.drop_eq_nil_of_le (Nat.le_refl _)) g k1)
    obtain ⟨Hv', d, hd, vx, r⟩ := hY i H x H' Hv y g.vx.vv g.vx.vh hi
    have hdr : ds.drop i = d :: ds.drop (i + 1) := by
      obtain ⟨hlt, q⟩ := List.getElem?_eq_some_iff.mp hd
      rw [List.drop_eq_getElem_cons hlt, q]
    exact fo_turn f hdr (g.go vx) r k1 fun ρ σ H Hv g f => ⟨Hv, ρ, g, f⟩⟩
end
end PL
namespace PL
open PySem PySem.Spec L2
open Evl (Ex)

section
variable {X : Cx} {W : WX} {ρ ρ' ρ1 ρ2 : List E} {e a b c tg : Expr} {es : List Expr} {d : D} {ds l : List D} {pos p p' : Pos} {s : Str} {k n : Nat} {o o1 : Out} {B : Bool}

/-! ### what is walked -/
/-- the ints lo, lo + 1, .. -/
def rgD (lo : Int) (n : Nat) : List D := (List.range n).map fun k => D.int (lo + (k : Nat))
theorem rgD_len {lo : Int} {n : Nat} : (rgD lo n).length = n := by
  unfold rgD
  rw [List.length_map, List.length_range]
theorem rgD_get {lo : Int} {n i : Nat} (h : i < n) : (rgD lo n)[i]? = some (D.int (lo + (i : Nat))) := by
  unfold rgD
  rw [List.getElem?_map, List.getElem?_range h]
  rfl
theorem it_range {K : PySem.W.Frag} {Hv : Hp} {lo : Int} {n : Nat} : ItD K Hv (Itr lo n) (rgD lo n) :=
  ⟨fun _ => True, YFn fun i => .int (lo + i), by rw [rgD_len]; exact walk_range, fun _ _ => trivial, fun i H x H' Hv y e e' hi => by
    obtain ⟨rfl, rfl⟩ := y
    rw [rgD_len] at hi
    exact ⟨Hv, _, rgD_get hi, Vx.refl e', rp_v'⟩⟩
theorem xi_range1 {j : Int} (hg : Gl X "range") (hm : X.mg "range" = none) (ha : XE X ρ a (.int j)) (hj : -(2 ^ 62) ≤ j ∧ j < 2 ^ 62) (he : starEach [a] X.env = [(false, eval a X.env)] := by rfl) : XI X ρ tg (.Call (.Name "range" p) [a] [] pos) (rgD 0 j.toNat) :=
  PI.imp (pi_range1 hg hm (xa_cons ha xa_nil he) he) fun σ H R ⟨Bv, Bs, Hv, g, k⟩ => ⟨Bv, Bs, Hv, g, fun vs H1 Hv1 g1 e1 r1 => by
    obtain ⟨x, r, rfl, h1, h2⟩ := rpL_cons_inv r1
    rw [rpL_nil_inv h2, rp_v h1]
    exact ⟨j, rfl, hj.1, hj.2, k _ H1 Hv1 g1 e1 it_range⟩⟩
theorem xi_range2 {i j : Int} (hg : Gl X "range") (hm : X.mg "range" = none) (ha : XE X ρ a (.int i)) (hb : XE X ρ b (.int j)) (hi : -(2 ^ 62) ≤ i ∧ i < 2 ^ 62 ∧ -(2 ^ 62) ≤ j ∧ j < 2 ^ 62)
    (hs : starEach [a, b] X.env = [(false, eval a X.env), (false, eval b X.env)] := by rfl) (hs2 : starEach [b] X.env = [(false, eval b X.env)] := by rfl) : XI X ρ tg (.Call (.Name "range" p) [a, b] [] pos) (rgD i (j - i).toNat) :=
  PI.imp (pi_range2 hg hm (xa_cons ha (xa_cons hb xa_nil hs2) (hs.trans (by rw [hs2]))) hs hs2) fun σ H R ⟨Bv, Bs, Hv, g, k⟩ => ⟨Bv, Bs, Hv, g, fun vs H1 Hv1 g1 e1 r1 => by
    obtain ⟨x, r, rfl, h1, h2⟩ := rpL_cons_inv r1
    obtain ⟨y, r', rfl, h3, h4⟩ := rpL_cons_inv h2
    rw [rpL_nil_inv h4, rp_v h1, rp_v h3]
    exact ⟨i, j, rfl, hi, k _ H1 Hv1 g1 e1 it_range⟩⟩
/-- the signs of a text, each a text -/
def sgD (z : Str) : List D := z.cps.toList.map fun c => D.str ⟨#[c]⟩
theorem xi_str {it : Expr} {z : Str} (h : XE X ρ it (.str z)) : XI X ρ tg it (sgD z) :=
  PI.imp (pi_str h) fun σ H R ⟨Bv, Bs, Hv, g, k⟩ => ⟨Bv, Bs, Hv, g, fun v H1 Hv1 g1 e1 r1 => by
    refine ⟨z, rp_v r1, k _ H1 Hv1 g1 e1 ⟨fun _ => True, fun i H v H' => H' = H ∧ ∃ c, z.cps[i]? = some c ∧ v = .str ⟨#[c]⟩, ?_, fun H e => trivial, fun i H x H' Hv y e e' hi => ?_⟩⟩
    · rw [show (sgD z).length = z.cps.size by unfold sgD; rw [List.length_map, Array.length_toList]]
      exact walk_str
    · obtain ⟨rfl, c, hc, rfl⟩ := y
      refine ⟨Hv, .str ⟨#[c]⟩, ?_, Vx.refl e', rp_v'⟩
      unfold sgD
      rw [List.getElem?_map, Array.getElem?_toList, hc]
      rfl⟩
/-- lo, lo + c, .. -/
def rcD (lo c : Int) (n : Nat) : List D := (List.range n).map fun k => D.int (lo + (k : Nat) * c)
theorem xi_range3 {i j m : Int} (hg : Gl X "range") (hm : X.mg "range" = none) (ha : XA X ρ [a, b, c] [.int i, .int j, .int m]) (hr : RgC i j m n)
    (hs : starEach [a, b, c] X.env = (false, eval a X.env) :: starEach [b, c] X.env := by rfl) (hpl : (backTo pos (starEach [b, c] X.env)).any (·.1) = false := by rfl) : XI X ρ tg (.Call (.Name "range" p) [a, b, c] [] pos) (rcD i m n) :=
  PI.imp (pi_range3 hg hm ha hs hpl) fun σ H R ⟨Bv, Bs, Hv, g, k⟩ => ⟨Bv, Bs, Hv, g, fun vs H1 Hv1 g1 e1 r1 => by
    have := rpL_vs (vs := [.int i, .int j, .int m]) r1
    subst this
    refine ⟨i, j, m, n, rfl, hr, k _ H1 Hv1 g1 e1 ⟨fun _ => True, YFn fun t => .int (i + (t : Nat) * m), ?_, fun _ _ => trivial, fun t H x H' Hv y e e' hi => ?_⟩⟩
    · rw [show (rcD i m n).length = n by unfold rcD; rw [List.length_map, List.length_range]]
      exact walk_rangeC
    · obtain ⟨rfl, rfl⟩ := y
      refine ⟨Hv, .int (i + (t : Nat) * m), ?_, Vx.refl e', rp_v'⟩
      unfold rcD at hi ⊢
      rw [List.length_map, List.length_range] at hi
      rw [List.getElem?_map, List.getElem?_range hi]
      rfl⟩

/-! ### list comprehensions -/
def wipeE (ρ : List E) : List Nat → List E
  | [] => ρ
  | v :: vs => (wipeE ρ vs).set v .no
theorem Sg.no {K : PySem.W.Frag} {Bv Bs Hv H : Hp} {σ : L2.St} (g : Sg K Bv Bs Hv H ρ σ) (i : Nat) : Sg K Bv Bs Hv H (ρ.set i .no) (σ.set i none) := by
  refine ⟨g.vx, by rw [List.length_set, List.length_set, g.len], fun j e hj => ?_, fun j k l l' q h1 h2 h3 h4 => ?_⟩
  · by_cases hij : i = j
    · subst hij
      have hl : i < ρ.length := by
        have := (List.getElem?_eq_some_iff.mp hj).1
        rwa [List.length_set] at this
      rw [List.getElem?_set_self hl] at hj
      cases hj
      exact ⟨none, List.getElem?_set_self (by rw [g.len]; exact hl), trivial⟩
    · rw [List.getElem?_set_ne hij] at hj
      rw [List.getElem?_set_ne hij]
      exact g.at_ j e hj
  · have key : ∀ {j : Nat} {l : List D}, (ρ.set i .no)[j]? = some (.own l) → i ≠ j := fun {j l} h z => by
      subst z
      have hl : i < ρ.length := by
        have := (List.getElem?_eq_some_iff.mp h).1
        rwa [List.length_set] at this
      rw [List.getElem?_set_self hl] at h
      cases h
    have n1 := key h1
    have n2 := key h2
    rw [List.getElem?_set_ne n1] at h1 h3
    rw [List.getElem?_set_ne n2] at h2 h4
    exact g.sep j k l l' q h1 h2 h3 h4
theorem Sg.wipe {K : PySem.W.Frag} {Bv Bs Hv H : Hp} {σ : L2.St} (g : Sg K Bv Bs Hv H ρ σ) : ∀ vs : List Nat, Sg K Bv Bs Hv H (wipeE ρ vs) (L2.wipe σ vs)
  | [] => g
  | v :: vs => (g.wipe vs).no v
theorem wipe_set {σ : L2.St} {i : Nat} {x : Option V} : ∀ {vs : List Nat}, i ∈ vs → L2.wipe (σ.set i x) vs = L2.wipe σ vs
  | v :: vs, h => by
    unfold L2.wipe
    by_cases hv : i ∈ vs
    · rw [wipe_set hv]
    · have e : i = v := by
        rcases List.mem_cons.mp h with h | h
        · exact h
        · exact absurd h hv
      subst e
      clear h
      have go : ∀ (us : List Nat), i ∉ us → L2.wipe (σ.set i x) us = (L2.wipe σ us).set i x := fun us => by
        induction us with
        | nil => intro _; rfl
        | cons u us ih =>
          intro hn
          have h1 : i ≠ u := fun z => hn (z ▸ List.mem_cons_self)
          have h2 : i ∉ us := fun z => hn (List.mem_cons_of_mem _ z)
          unfold L2.wipe
          rw [ih h2, List.set_comm _ _ h1]
      rw [go vs hv, List.set_set]
theorem wipe_wipe {σ : L2.St} : ∀ {vs us : List Nat}, (∀ v ∈ us, v ∈ vs) → L2.wipe (L2.wipe σ us) vs = L2.wipe σ vs
  | vs, [], _ => rfl
  | vs, u :: us, h => by
    show L2.wipe ((L2.wipe σ us).set u none) vs = L2.wipe σ vs
    rw [wipe_set (h u List.mem_cons_self), wipe_wipe fun v hv => h v (List.mem_cons_of_mem _ hv)]
/-- a target within a comprehension: own slots alone change -/
def tGw (K : PySem.W.Frag) (vs : List Nat) (ρ : List E) (d : D) (ρ' : List E) : TG := fun v σ H Q => ∃ Bv Bs Hv, Sg K Bv Bs Hv H ρ σ ∧ Rp K Hv d v ∧ ∀ σ', Sg K Bv Bs Hv H ρ' σ' → L2.wipe σ' vs = L2.wipe σ vs → Q σ' H
def tGws (K : PySem.W.Frag) (vs : List Nat) (ρ : List E) (ds : List D) (ρ' : List E) : TGs := fun us σ H Q => ∃ Bv Bs Hv, Sg K Bv Bs Hv H ρ σ ∧ RpL K Hv ds us ∧ ∀ σ', Sg K Bv Bs Hv H ρ' σ' → L2.wipe σ' vs = L2.wipe σ vs → Q σ' H
abbrev XGw (X : Cx) (vs : List Nat) (ρ : List E) (tg : Expr) (d : D) (ρ' : List E) : Prop := PG X tg (tGw X.K vs ρ d ρ')
abbrev XGws (X : Cx) (vs : List Nat) (ρ : List E) (tgs : List Expr) (ds : List D) (ρ' : List E) : Prop := PGs X tgs (tGws X.K vs ρ ds ρ')
theorem xgw_name {vs : List Nat} (i : Nat) (hN : X.N.Nodup) (hi : X.N[i]? = some s) (hx : Loc X.env.scope s) (hf : X.fn s = true ∨ X.env.scope.names.lookup s = some .local) (hv : i ∈ vs := by decide) : XGw X vs ρ (.Name s p) d (ρ.set i (.val d)) :=
  PG.imp (pg_name (i := i) hN hi hx hf) fun v σ H Q ⟨Bv, Bs, Hv, g, r, k⟩ => k _ (g.set r) (wipe_set hv)
/-- a clause's tests -/
abbrev XTs (X : Cx) (ρ : List E) (ifs : List Expr) (b : Bool) : Prop := PTs X ifs (tBl X.K ρ b)
theorem PTs.imp {ifs : List Expr} {t t' : TT} (h : PTs X ifs t) (i : ∀ σ H Q, t' σ H Q → t σ H Q) : PTs X ifs t' := ⟨fun pins s σ H Q I w => h.run pins s σ H Q I (i σ H Q w)⟩
theorem xts_nil : XTs X ρ [] true := PTs.imp pts_nil fun σ H Q ⟨Bv, Bs, Hv, g, k⟩ => k H Hv g (Vx.refl g.vx.vh)
/-- the blocks of a comprehension -/
def Blk (X : Cx) (scope : Scope) (P : Cx → Prop) : Prop := ∀ (s : Shared) (H : Hp) (C : Addr) (cl : List (Str × Addr)) (fp : List Addr), P (X.blk s H scope (compEnvC scope cl C X.env) fp)
inductive LcD (X : Cx) (scope : Scope) (vs : List Nat) (tg : Expr) (ifs : List Expr) (elt : Expr) (ρ : List E) : List D → List D → Prop where
  | nil : LcD X scope vs tg ifs elt ρ [] []
  | keep {d r : D} {ρ1 : List E} {ds rs : List D} : Blk X scope (fun Y => XGw Y vs ρ tg d ρ1) → Blk X scope (fun Y => XTs Y ρ1 ifs true) → Blk X scope (fun Y => XE Y ρ1 elt r) → LcD X scope vs tg ifs elt ρ ds rs → LcD X scope vs tg ifs elt ρ (d :: ds) (r :: rs)
  | skip {d : D} {ρ1 : List E} {ds rs : List D} : Blk X scope (fun Y => XGw Y vs ρ tg d ρ1) → Blk X scope (fun Y => XTs Y ρ1 ifs false) → LcD X scope vs tg ifs elt ρ ds rs → LcD X scope vs tg ifs elt ρ (d :: ds) rs
abbrev gB (X : Cx) (scope : Scope) (tg : Expr) : TG := fun v σ H Q => ∃ t : TG, Blk X scope (fun Y => PG Y tg t) ∧ t v σ H Q
abbrev tB2 (X : Cx) (scope : Scope) (ifs : List Expr) : TT := fun σ H Q => ∃ t : TT, Blk X scope (fun Y => PTs Y ifs t) ∧ t σ H Q
abbrev eB (X : Cx) (scope : Scope) (elt : Expr) : TE := fun σ H Q => ∃ t : TE, Blk X scope (fun Y => PE Y elt t) ∧ t σ H Q
theorem gB_ok {scope : Scope} : ∀ (s : Shared) (H : Hp) (C : Addr) (cl : List (Str × Addr)) (fp : List Addr), PG (X.blk s H scope (compEnvC scope cl C X.env) fp) tg (gB X scope tg) := fun s H C cl fp => ⟨fun pins s' σ H' v u Q I r ⟨t, h, w⟩ => (h s H C cl fp).run pins s' σ H' v u Q I r w⟩
theorem tB_ok {scope : Scope} {ifs : List Expr} : ∀ (s : Shared) (H : Hp) (C : Addr) (cl : List (Str × Addr)) (fp : List Addr), PTs (X.blk s H scope (compEnvC scope cl C X.env) fp) ifs (tB2 X scope ifs) := fun s H C cl fp => ⟨fun pins s' σ H' Q I ⟨t, h, w⟩ => (h s H C cl fp).run pins s' σ H' Q I w⟩
theorem eB_ok {scope : Scope} {elt : Expr} : ∀ (s : Shared) (H : Hp) (C : Addr) (cl : List (Str × Addr)) (fp : List Addr), PE (X.blk s H scope (compEnvC scope cl C X.env) fp) elt (eB X scope elt) := fun s H C cl fp => ⟨fun pins s' σ H' Q I ⟨t, h, w⟩ => (h s H C cl fp).run pins s' σ H' Q I w⟩
theorem LcD.len {scope : Scope} {vs : List Nat} {ifs : List Expr} {elt : Expr} {ds rs : List D} (h : LcD X scope vs tg ifs elt ρ ds rs) : rs.length ≤ ds.length := by
  induction h with
  | nil => exact Nat.le_refl _
  | keep _ _ _ _ ih =>
    rw [List.length_cons, List.length_cons]
    omega
  | skip _ _ _ ih =>
    rw [List.length_cons]
    omega
theorem LcD.end_ {scope : Scope} {vs : List Nat} {ifs : List Expr} {elt : Expr} {ds rs : List D} (h : LcD X scope vs tg ifs elt ρ ds rs) (e : ds = []) : rs = [] := by
  cases h with
  | nil => rfl
  | keep => cases e
  | skip => cases e
theorem lc_reads {wi : TI} {scope : Scope} {vs : List Nat} {ifs : List Expr} {elt : Expr} {rs : List D} (h : LcD X scope vs tg ifs elt (wipeE ρ vs) ds rs) (hl : ds.length ≤ 100000) (hwi : ∀ σ H R, tI X.K ρ ds σ H R → wi σ H R) :
    ∀ σ H Q, tO X.K ρ rs σ H Q → tLc wi (gB X scope tg) (tB2 X scope ifs) (eB X scope elt) vs σ H Q := by
  intro σ H Q ⟨Bv, Bs, Hv, g, k⟩
  refine hwi σ H _ ⟨Bv, Bs, Hv, g, fun J H1 Hv1 g1 e1 hJ Dl hD => ?_⟩
  obtain ⟨G, Y, w, hG, hY⟩ := hJ.w
  have nD : Hv1 Dl = none := Evl.fresh_back g1.vx.vh hD
  have nB : Bs Dl = none := Evl.fresh_back g1.vx.hh hD
  refine lc_it w (g := gB X scope tg) (tt := tB2 X scope ifs) (te := eB X scope elt)
    (fun i H => ∃ Hv acc vacc tl, Vx Hv1 H1 Hv H ∧ Hv Dl = none ∧ H Dl = some (.lst vacc) ∧ RpL X.K Hv acc vacc ∧ LcD X scope vs tg ifs elt (wipeE ρ vs) (ds.drop i) tl ∧ acc ++ tl = rs ∧ acc.length ≤ i)
    ⟨Hv1, [], [], rs, Vx.newH g1.vx.vh hD, nD, upd_same, rpL_nil, h, rfl, Nat.zero_le _⟩
    (fun i H _ ⟨Hv, acc, vacc, tl, x, _⟩ => hG H (x.vv.trans x.vh)) (fun i x H H' hi ⟨Hv, acc, vacc, tl, hx, z1, z2, z3, z4, z5, z6⟩ y => ?_) (fun H ⟨Hv, acc, vacc, tl, hx, z1, z2, z3, z4, z5, z6⟩ => ?_)
  · obtain ⟨Hv', d, hd, vx, r⟩ := hY i H x H' Hv y hx.vv hx.vh hi
    have hdr : ds.drop i = d :: ds.drop (i + 1) := by
      obtain ⟨hlt, q⟩ := List.getElem?_eq_some_iff.mp hd
      rw [List.drop_eq_getElem_cons hlt, q]
    have nf : ∀ {Hv2 H2 : Hp}, Vx Hv H Hv2 H2 → Hv2 Dl = none := fun {Hv2 H2} q => by
      cases z : Hv2 Dl with
      | none => rfl
      | some o =>
        rcases q.fr Dl o z with u | u
        · rw [z1] at u; cases u
        · rw [z2] at u; cases u
    have x' := hx.trans vx
    have g' := g1.go x'
    have gw := g'.wipe vs
    have ww : L2.wipe (L2.wipe σ vs) vs = L2.wipe σ vs := wipe_wipe fun v hv => hv
    have hsz : acc.length < 100000 := by
      have := z6
      omega
    rw [hdr] at z4
    cases z4 with
    | @keep _ r' ρ1 _ rs' hg ht he hn =>
      refine ⟨tGw X.K vs (wipeE ρ vs) d ρ1, hg, Bv, Bs, Hv', gw, r, fun σ2 g2 ew => ⟨ew.trans ww, tBl X.K ρ1 true, ht, Bv, Bs, Hv', g2, fun H3 Hv3 g3 x3 => iteT ⟨tD X.K ρ1 r', he, Bv, Bs, Hv3, g3, fun v H4 Hv4 g4 x4 r4 => ?_⟩⟩⟩
      have xa := (vx.trans x3).trans x4
      refine ⟨vacc, xa.hh _ _ z2, Evl.sz_lt (by rw [rpL_len z3]; exact hsz), Hv4, acc ++ [r'], vacc ++ [v], rs', ?_, nf xa, upd_same, rpL_app (rpL_mono xa.vv z3) (rpL_cons r4 rpL_nil), hn, by rw [List.append_assoc]; exact z5, by rw [List.length_append]; show acc.length + 1 ≤ i + 1; omega⟩
      have xb := hx.trans xa
      exact ⟨xb.vv, Ex.mut xb.hh hD, Ex.mut xb.vh (nf xa), xb.fr⟩
    | @skip _ ρ1 _ _ hg ht hn =>
      refine ⟨tGw X.K vs (wipeE ρ vs) d ρ1, hg, Bv, Bs, Hv', gw, r, fun σ2 g2 ew => ⟨ew.trans ww, tBl X.K ρ1 false, ht, Bv, Bs, Hv', g2, fun H3 Hv3 g3 x3 => iteF ?_⟩⟩
      have xa := vx.trans x3
      exact ⟨Hv3, acc, vacc, tl, hx.trans xa, nf xa, xa.hh _ _ z2, rpL_mono xa.vv z3, hn, z5, by omega⟩
  · have e : tl = [] := z4.end_ (List.drop_eq_nil_of_le (Nat.le_refl _))
    subst e
    rw [List.append_nil] at z5
    subst z5
    exact k Dl vacc H Hv (g1.go hx) (e1.trans hx) nB z1 z2 z3 (g1.notOwn_new hD) (Evl.fresh_back e1.hh hD)
theorem xo_lc {scope : Scope} {own : List (Str × Nat)} {ifs : List Expr} {elt it : Expr} {rs : List D} (hc : X.calm = true) (hN : X.N.Nodup) (ok : BlkOk X.N X.env.scope scope own) (hi : XI X ρ tg it ds) (hl : ds.length ≤ 100000)
    (h : LcD X scope (own.map (·.2)) tg ifs elt (wipeE ρ (own.map (·.2))) ds rs) (hs : ∀ x, foldedSetIterable it X.env x = pure x := by intro _; rfl) : XO X ρ (.ListComp elt [⟨tg, it, ifs, 0⟩] scope pos) rs :=
  PE.imp (pe_lc hc hN hi ok gB_ok tB_ok eB_ok hs) (lc_reads h hl fun _ _ _ w => w)
theorem xs_setLc {W : WX} (i : Nat) {scope : Scope} {own : List (Str × Nat)} {ifs : List Expr} {elt it : Expr} {rs : List D} {spos : Pos} (hc : X.calm = true) (hN : X.N.Nodup) (hy : X.N[i]? = some s) (hyl : X.env.scope.names.lookup s = some .local) (ok : BlkOk X.N X.env.scope scope own)
    (hsw : swapsWith (.ListComp elt [⟨tg, it, ifs, 0⟩] scope pos) (some (.Name s p')) spos.line X.env = pure true) (hi : XI X ρ tg it ds) (hl : ds.length ≤ 100000)
    (h : LcD X scope (own.map (·.2)) tg ifs elt (wipeE ρ (own.map (·.2))) ds rs) (hs : ∀ x, foldedSetIterable it X.env x = pure x := by intro _; rfl) : XS X W ρ (.Assign [.Name s p'] (.ListComp elt [⟨tg, it, ifs, 0⟩] scope pos) spos) (.nx (ρ.set i (.own rs))) :=
  PS.imp (ps_setLc hc hN hy hyl hsw hi ok gB_ok tB_ok eB_ok hs) fun D σ H ⟨Bv, Bs, Hv, g, k⟩ => by
    refine lc_reads h hl (fun _ _ _ w => w) σ H _ ⟨Bv, Bs, Hv, g, fun p xs H' Hv' g' x h1 h2 h3 r h5 _ => ?_⟩
    exact k _ H' Hv' (g'.setOwn h1 h2 h3 r h5)

/-! ### a def keeps its promise -/
def startE (N : List Str) (ds : List D) : List E := ds.map E.val ++ List.replicate (N.length - ds.length) .no
/-- what a body's outcome is worth -/
inductive Leads : Out → Ro → Prop where
  | nx (ρ : List E) : Leads (.nx ρ) (.val .non)
  | ret (d : D) : Leads (.ret d) (.val d)
  | fr (l : List D) : Leads (.retO l) (.fr l)
  | frv (l : List D) : Leads (.retO l) (.val (.lst l))
  | exc (C : Addr) (ns : List Str) (ds : List D) (ρ : List E) : Leads (.exc C ns ds ρ) (.exc C ns ds)
  | frP (a b : E) : Leads (.retP a b) (.frP a b)
theorem sg_start {K : PySem.W.Frag} {Hv H : Hp} {N : List Str} {vs : List V} (e : Ex Hv H) (r : RpL K Hv ds vs) : Sg K Hv H Hv H (startE N ds) (L2.start N vs) := by
  have hl := rpL_len r
  refine ⟨Vx.refl e, by unfold startE L2.start; rw [List.length_append, List.length_append, List.length_map, List.length_map, List.length_replicate, List.length_replicate, hl], fun i q hq => ?_, fun i j l l' q h1 => ?_⟩
  · unfold startE at hq
    unfold L2.start
    by_cases hi : i < ds.length
    · rw [List.getElem?_append_left (by rw [List.length_map]; exact hi), List.getElem?_map] at hq
      rw [List.getElem?_append_left (by rw [List.length_map, hl]; exact hi), List.getElem?_map]
      cases hd : ds[i]? with
      | none =>
        rw [hd] at hq
        cases hq
      | some d =>
        rw [hd] at hq
        cases hq
        obtain ⟨v, h1, h2⟩ := rpL_get r hd
        rw [h1]
        exact ⟨some v, rfl, v, rfl, h2⟩
    · rw [List.getElem?_append_right (by rw [List.length_map]; omega), List.length_map] at hq
      rw [List.getElem?_append_right (by rw [List.length_map, hl]; omega), List.length_map, hl]
      rw [List.getElem?_replicate] at hq ⊢
      split at hq
      · rename_i hlt
        rw [if_pos hlt]
        cases hq
        exact ⟨none, rfl, trivial⟩
      · cases hq
  · exfalso
    unfold startE at h1
    by_cases hi : i < ds.length
    · rw [List.getElem?_append_left (by rw [List.length_map]; exact hi), List.getElem?_map] at h1
      cases hd : ds[i]? with
      | none =>
        rw [hd] at h1
        cases h1
      | some d =>
        rw [hd] at h1
        cases h1
    · rw [List.getElem?_append_right (by rw [List.length_map]; omega), List.length_map, List.getElem?_replicate] at h1
      split at h1 <;> cases h1
theorem fn_ok0 {P : Program} {w : World} {K : PySem.W.Frag} {mg : Str → Option Value} {base : Heap} {x qual : Str} {st : Stmt} {f : Addr} {fd : FuncData} {N ps : List Str} {k n : Nat} {φ : List D → Ro} (F : Fun K x qual st f fd) (S : FnScope N ps (defScope st)) (hn : ps.length = n)
    (body : ∀ (X : Cx) (W : WX) (ds : List D), (∃ cdv A outer s H E, X = cxOf (L2N.CX P w) P w K mg base N qual (defScope st) f cdv A outer s H E) → Bd X W k → ds.length = n → φ ds ≠ .bad → ∃ o, XB X W (startE N ds) (defBody st) o ∧ Leads o (φ ds)) : FnOk P w K mg base (L2N.CX P w) (k + 1) f fd ps (spD K n φ) := by
  refine okN F S (fun vs H Q E ⟨Hv, ds, _, r, hl, _⟩ => by rw [rpL_len r, hl, hn]) (fun cdv A outer s H vs Q E hr ⟨Hv, ds, e, r, hl, q⟩ => ?_)
  have nb : φ ds ≠ .bad := fun z => by
    rw [z] at q
    exact q
  obtain ⟨o, ho, hL⟩ := body _ (fun cls d _ H => E cls d H) ds ⟨cdv, A, outer, s, H, E, rfl⟩ ⟨S.nd, rfl, hr, passes_of rfl, L2N.takes_of rfl rfl rfl rfl, fun _ => rfl⟩ hl nb
  refine ⟨_, ho, Hv, H, Hv, sg_start e r, ?_⟩
  generalize φ ds = R at q hL
  cases hL with
  | nx ρ => exact fun σ H' Hv' g => q .non H' Hv' g.vx rp_v'
  | ret d => exact fun v H' Hv' x r => q v H' Hv' x r
  | fr l => exact fun p xs H' Hv' x h1 h2 h3 r => q p xs H' Hv' x h1 h2 h3 r
  | frv l => exact fun p xs H' Hv' x h1 h2 h3 r => q (.ref p) H' (upd Hv' p (.lst xs)) (x.freeze h2 h3 h1) (by
      unfold Rp
      exact ⟨p, xs, rfl, .inl (.inl upd_same), rpL_mono (Ex.new h2) r⟩)
  | exc C ns ds ρ => exact fun od σ H' Hv' g x => q od H' Hv' g.vx x
  | frP a b => exact fun p x y H' Hv' v h1 h2 h3 h4 => q p x y H' Hv' v h1 h2 h3 h4
end
end PL
namespace PL
open PySem PySem.Spec L2
open Evl (Ex)

/-! ### the context of a body, as the printed proofs use it -/
theorem lookup_at {nk : List (Str × NameKind)} (hn : (nk.map (·.1)).Nodup) : ∀ {j : Nat} {s : Str} {kd : NameKind}, nk[j]? = some (s, kd) → nk.lookup s = some kd := by
  induction nk with
  | nil => intro j s kd h; simp at h
  | cons y r ih =>
    intro j s kd h
    rw [List.map_cons, List.nodup_cons] at hn
    cases j with
    | zero =>
      simp at h
      subst h
      simp [List.lookup]
    | succ j =>
      have h' : r[j]? = some (s, kd) := by simpa using h
      have hm : s ∈ r.map (·.1) := List.mem_map.mpr ⟨(s, kd), List.mem_of_getElem? h', rfl⟩
      have hne : s ≠ y.1 := fun z => hn.1 (z ▸ hm)
      obtain ⟨y1, y2⟩ := y
      rw [List.lookup_cons]
      have : (s == y1) = false := by simpa using hne
      rw [this]
      exact ih hn.2 h'
def isVis : NameKind → Bool
  | .local => true
  | .cell => true
  | .free => true
  | _ => false
def isLoc : NameKind → Bool
  | .local => true
  | .cell => true
  | _ => false
structure Bx (X : Cx) (P : Program) (w : World) (K : PySem.W.Frag) (mg : Str → Option Value) (base : Heap) (k : Nat) (N : List Str) (nk : List (Str × NameKind)) : Prop where
  hP : X.prog = P
  hw : X.w = w
  hK : X.K = K
  hm : X.mg = mg
  hb : X.base = base
  room : Room k X.A
  calm : X.calm = true
  hN : X.N = N
  hs : ∀ (j : Nat) (s : Str) (kd : NameKind), nk[j]? = some (s, kd) → ∃ kd', X.env.scope.names.lookup s = some kd' ∧ (kd' = kd ∨ (kd = .free ∧ kd' = .cell))
  nd : X.N.Nodup
structure Bs (X : Cx) (W : WX) : Prop where
  po : PassesOwn (model X.prog X.w) X.A X.env X.xe
  tk : L2N.Takes X W
  fn : ∀ x, X.fn x = true
  kd : X.env.scope.kind = .function
  st : X.stack = X.env :: X.outer
  fr : X.env.frame = some X.env.locals
section
variable {X : Cx} {P : Program} {w : World} {K : PySem.W.Frag} {mg : Str → Option Value} {base : Heap} {k k' n : Nat} {N : List Str} {nk : List (Str × NameKind)} {W : WX}
variable {ρ ρ' ρ1 ρ2 : List E} {e a b c tg : Expr} {es : List Expr} {d : D} {ds l : List D} {pos p p' : Pos} {s : Str} {o o1 : Out} {kd : NameKind} {φ : List D → Ro}

theorem Bx.vis (B : Bx X P w K mg base k N nk) {j : Nat} (hj : nk[j]? = some (s, kd)) (h : isVis kd = true) : Vis X.env.scope s := by
  obtain ⟨kd', h1, rfl | ⟨rfl, rfl⟩⟩ := B.hs j s kd hj
  · cases kd' with
    | «local» => exact .inl h1
    | cell => exact .inr (.inl h1)
    | free => exact .inr (.inr h1)
    | _ => cases h
  · exact .inr (.inl h1)
theorem Bx.loc (B : Bx X P w K mg base k N nk) {j : Nat} (hj : nk[j]? = some (s, kd)) (h : isLoc kd = true) : Loc X.env.scope s := by
  obtain ⟨kd', h1, rfl | ⟨rfl, rfl⟩⟩ := B.hs j s kd hj
  · cases kd' with
    | «local» => exact .inl h1
    | cell => exact .inr h1
    | _ => cases h
  · cases h
theorem Bx.lookup_loc (B : Bx X P w K mg base k N nk) {j : Nat} (hj : nk[j]? = some (s, .local)) : X.env.kindOf s = some .local := by
  obtain ⟨kd', h1, rfl | ⟨z, _⟩⟩ := B.hs j s _ hj
  · exact h1
  · cases z
theorem Bx.gl (B : Bx X P w K mg base k N nk) {j : Nat} (hj : nk[j]? = some (s, .globalImplicit)) : Gl X s := by
  obtain ⟨kd', h1, rfl | ⟨z, _⟩⟩ := B.hs j s _ hj
  · exact h1
  · cases z
theorem Bx.at_ (B : Bx X P w K mg base k N nk) {i : Nat} (h : N[i]? = some s) : X.N[i]? = some s := by
  rw [B.hN]
  exact h
theorem Bx.none (B : Bx X P w K mg base k N nk) (h : mg s = none) : X.mg s = none := by
  rw [B.hm]
  exact h
theorem Bx.fnc (B : Bx X P w K mg base k N nk) (h : FnC P w K mg base s k' n φ) : FnC X.prog X.w X.K X.mg X.base s k' n φ := by
  rw [B.hP, B.hw, B.hK, B.hm, B.hb]
  exact h
theorem lookup_key {f : Str × NameKind → Str × NameKind} (hf : ∀ p, (f p).1 = p.1) : ∀ {l : List (Str × NameKind)} {s : Str} {kd : NameKind}, l.lookup s = some kd → (l.map f).lookup s = some (f (s, kd)).2
  | [], _, _, h => by cases h
  | (a, b) :: r, s, kd, h => by
    rw [List.lookup_cons] at h
    rw [List.map_cons]
    have e : f (a, b) = ((f (a, b)).1, (f (a, b)).2) := rfl
    rw [e, hf, List.lookup_cons]
    cases q : s == a with
    | true =>
      rw [q] at h
      have : s = a := by simpa using q
      subst this
      cases h
      rfl
    | false =>
      rw [q] at h
      exact lookup_key hf h
theorem Bx.blk (B : Bx X P w K mg base k N nk) {scope : Scope} {nkc : List (Str × NameKind)} (h1 : scope.names = nkc) (h2 : (nkc.map (·.1)).Nodup) (s : Shared) (H : Hp) (C : Addr) (cl : List (Str × Addr)) (fp : List Addr) :
    Bx (X.blk s H scope (compEnvC scope cl C X.env) fp) P w K mg base k N nkc :=
  ⟨B.hP, B.hw, B.hK, B.hm, B.hb, B.room, B.calm, B.hN, fun j s kd hj => by
    have h3 := lookup_at h2 hj
    rw [← h1] at h3
    have h4 := lookup_key (f := fun (n, k) => if (k == NameKind.free && X.env.scope.kind == .function && X.env.kindOf n == some .cell) then (n, NameKind.cell) else (n, k)) (fun p => by
      obtain ⟨n, k⟩ := p
      show (if _ then (n, NameKind.cell) else (n, k)).1 = n
      split <;> rfl) h3
    by_cases hc : (kd == NameKind.free && X.env.scope.kind == .function && X.env.kindOf s == some .cell) = true
    · refine ⟨.cell, h4.trans (congrArg (fun p : Str × NameKind => some p.2) (if_pos hc)), .inr ⟨?_, rfl⟩⟩
      simp only [Bool.and_eq_true] at hc
      have := hc.1.1
      cases kd <;> first | rfl | cases this
    · exact ⟨kd, h4.trans (congrArg (fun p : Str × NameKind => some p.2) (if_neg hc)), .inl rfl⟩, B.nd⟩

theorem x_var (B : Bx X P w K mg base k N nk) (i j : Nat) (hr : ρ[i]? = some (.val d) := by rfl) (hi : N[i]? = some s := by rfl) (hj : nk[j]? = some (s, kd) := by rfl) (hv : isVis kd = true := by rfl) (hd : (s == ("__debug__" : Str)) = false := by decide +kernel) (hcd : (s == ("__classdict__" : Str)) = false := by decide +kernel) : XE X ρ (.Name s pos) d :=
  xe_name i (B.at_ hi) (B.vis hj hv) hr hd hcd
theorem x_glob (B : Bx X P w K mg base k N nk) (j : Nat) {u : Value} {v : V} (hm : mg s = some u) (r : RelV v u) (hr : ∀ H, Rp K H d v) (hj : nk[j]? = some (s, .globalImplicit) := by rfl) (hd : (s == ("__debug__" : Str)) = false := by decide +kernel) : XE X ρ (.Name s pos) d :=
  xe_globD (B.gl hj) (by rw [B.hm]; exact hm) r (fun H => by rw [B.hK]; exact hr H) hd
/-- a global that the module's top holds -/
def GlD (K : PySem.W.Frag) (mg : Str → Option Value) (s : Str) (d : D) : Prop := ∃ u v, mg s = some u ∧ RelV v u ∧ ∀ H, Rp K H d v
theorem x_gd (B : Bx X P w K mg base k N nk) (j : Nat) (h : GlD K mg s d) (hj : nk[j]? = some (s, .globalImplicit) := by rfl) (hd : (s == ("__debug__" : Str)) = false := by decide +kernel) : XE X ρ (.Name s pos) d := by
  obtain ⟨u, v, h1, h2, h3⟩ := h
  exact x_glob B j h1 h2 h3 hj hd
theorem x_call (B : Bx X P w K mg base k N nk) (h : FnC P w K mg base s k' n φ) (j : Nat) (ha : XA X ρ (e :: es) ds) (hφ : φ ds = .val d) (hk : k' ≤ k := by decide) (hn : ds.length = n := by rfl) (hj : nk[j]? = some (s, .globalImplicit) := by rfl) (hdb : (s == ("__debug__" : Str)) = false := by decide +kernel)
    (he : starEach (e :: es) X.env = (false, eval e X.env) :: starEach es X.env := by rfl) (hpl : (backTo pos (starEach es X.env)).any (·.1) = false := by rfl) : XE X ρ (.Call (.Name s p) (e :: es) [] pos) d :=
  xe_call (B.fnc h) (B.room.mono hk) (B.gl hj) ha hn hφ hdb he hpl
theorem x_callX {C : Addr} {ns : List Str} {xs : List D} (B : Bx X P w K mg base k N nk) (S : Bs X W) (h : FnC P w K mg base s k' n φ) (j : Nat) (ha : XA X ρ (e :: es) ds) (hφ : φ ds = .exc C ns xs) (hk : k' ≤ k := by decide) (hn : ds.length = n := by rfl) (hj : nk[j]? = some (s, .globalImplicit) := by rfl) (hdb : (s == ("__debug__" : Str)) = false := by decide +kernel)
    (he : starEach (e :: es) X.env = (false, eval e X.env) :: starEach es X.env := by rfl) (hpl : (backTo pos (starEach es X.env)).any (·.1) = false := by rfl) : XX X W ρ (.Call (.Name s p) (e :: es) [] pos) C ns xs :=
  xx_call (B.fnc h) (B.room.mono hk) S.tk (B.gl hj) ha hn hφ hdb he hpl

/-! ### operators, wide too -/
inductive Bin : Operator → V → V → V → Prop where
  | addI (i j : Int) : Bin .Add (.int i) (.int j) (.int (i + j))
  | subI (i j : Int) : Bin .Sub (.int i) (.int j) (.int (i - j))
  | mulI (i j : Int) : CMul i j → Bin .Mult (.int i) (.int j) (.int (i * j))
  | mulW (i j : Int) : CMulW i j → Bin .Mult (.int i) (.int j) (.int (i * j))
  | divI (i j : Int) : CDiv i j → Bin .FloorDiv (.int i) (.int j) (.int (i / j))
  | divW (i j : Int) : 0 < j → j.natAbs.log2 < 9000 → Bin .FloorDiv (.int i) (.int j) (.int (i / j))
  | modI (i j : Int) : 0 < j → Bin .Mod (.int i) (.int j) (.int (i % j))
  | powI (i j : Int) : CPow i j → Bin .Pow (.int i) (.int j) (.int (i ^ j.toNat))
  | shlI (i j : Int) : CPow i j → Bin .LShift (.int i) (.int j) (.int (i * 2 ^ j.toNat))
  | shrI (i j : Int) : 0 ≤ j → Bin .RShift (.int i) (.int j) (.int (i / 2 ^ j.toNat))
  | andI (i j : Int) : Bin .BitAnd (.int i) (.int j) (.int (Builtin.bitAnd i j))
  | orI (i j : Int) : Bin .BitOr (.int i) (.int j) (.int (Builtin.bitOr i j))
  | xorI (i j : Int) : Bin .BitXor (.int i) (.int j) (.int (Builtin.bitXor i j))
  | catS (i j : Str) : i.length + j.length ≤ sizeLine → Bin .Add (.str i) (.str j) (.str (i ++ j))
theorem x_bin {op : Operator} {u v z : V} (ha : XE X ρ a (.v u)) (hb : XE X ρ b (.v v)) (h : Bin op u v z) : XE X ρ (.BinOp a op b pos) (.v z) := by
  cases h with
  | addI i j => exact xe_add ha hb
  | subI i j => exact xe_sub ha hb
  | mulI i j h => exact xe_mul ha hb h
  | mulW i j h => exact xe_op op_mulW ha hb (r2_I h)
  | divI i j h => exact xe_fdiv ha hb h
  | divW i j h1 h2 => exact xe_op op_fdivW ha hb (r2_I (C := CDivW) ⟨h1, h2⟩)
  | modI i j h => exact xe_mod ha hb h
  | powI i j h => exact xe_pow ha hb h
  | shlI i j h => exact xe_shl ha hb h
  | shrI i j h => exact xe_shr ha hb h
  | andI i j => exact xe_and ha hb
  | orI i j => exact xe_or ha hb
  | xorI i j => exact xe_xor ha hb
  | catS i j h => exact xe_cat ha hb h
/-- an item by its place -/
inductive Ix : D → Int → D → Prop where
  | lst (l : List D) (i : Int) (d : D) : atI l i = some d → Ix (.lst l) i d
  | tup (l : List D) (i : Int) (d : D) : atI l i = some d → Ix (.tup l) i d
  | str (z : Str) (i : Int) (c : Nat) : z.length ≤ sizeLine → atI z.cps.toList i = some c → Ix (.str z) i (.str ⟨#[c]⟩)
theorem x_ix {i : Int} {q : D} (ha : XE X ρ a q) (hb : XE X ρ b (.int i)) (h : Ix q i d) (hs : PlainIx b := by exact fun _ _ => rfl) : XE X ρ (.Subscript a b pos) d := by
  cases h with
  | lst l i d h => exact xe_ixL ha hb h hs
  | tup l i d h => exact xe_ixT ha hb h hs
  | str z i c h1 h2 => exact xe_ixS ha hb h1 h2 hs
inductive Len : D → Int → Prop where
  | lst (l : List D) : Len (.lst l) l.length
  | tup (l : List D) : Len (.tup l) l.length
  | str (z : Str) : z.length ≤ sizeLine → Len (.str z) z.length
theorem x_len {i : Int} {q : D} (B : Bx X P w K mg base k N nk) (j : Nat) (hm : mg "len" = none) (ha : XE X ρ e q) (h : Len q i) (hj : nk[j]? = some (("len" : Str), NameKind.globalImplicit) := by rfl) (he : starEach (e :: []) X.env = (false, eval e X.env) :: starEach [] X.env := by rfl) (hpl : (backTo pos (starEach [] X.env)).any (·.1) = false := by rfl) : XE X ρ (.Call (.Name "len" p) [e] [] pos) (.int i) := by
  cases h with
  | lst l => exact xe_lenL (B.gl hj) (B.none hm) ha.w he hpl
  | tup l => exact xe_lenT (B.gl hj) (B.none hm) ha.w he hpl
  | str z h => exact xe_lenS (B.gl hj) (B.none hm) ha h he hpl
theorem x_max2 {i j : Int} (B : Bx X P w K mg base k N nk) (m : Nat) (hm : mg "max" = none) (ha : XE X ρ a (.int i)) (hb : XE X ρ b (.int j)) (hj : nk[m]? = some (("max" : Str), NameKind.globalImplicit) := by rfl) (he : starEach [a, b] X.env = (false, eval a X.env) :: starEach [b] X.env := by rfl) (he2 : starEach [b] X.env = (false, eval b X.env) :: starEach [] X.env := by rfl) (hpl : (backTo pos (starEach [b] X.env)).any (·.1) = false := by rfl) : XE X ρ (.Call (.Name "max" p) [a, b] [] pos) (.int (max i j)) :=
  xe_max2 B.calm (B.gl hj) (B.none hm) (xa_cons ha (xa_cons hb xa_nil he2) he) he hpl
theorem x_min2 {i j : Int} (B : Bx X P w K mg base k N nk) (m : Nat) (hm : mg "min" = none) (ha : XE X ρ a (.int i)) (hb : XE X ρ b (.int j)) (hj : nk[m]? = some (("min" : Str), NameKind.globalImplicit) := by rfl) (he : starEach [a, b] X.env = (false, eval a X.env) :: starEach [b] X.env := by rfl) (he2 : starEach [b] X.env = (false, eval b X.env) :: starEach [] X.env := by rfl) (hpl : (backTo pos (starEach [b] X.env)).any (·.1) = false := by rfl) : XE X ρ (.Call (.Name "min" p) [a, b] [] pos) (.int (min i j)) :=
  xe_min2 B.calm (B.gl hj) (B.none hm) (xa_cons ha (xa_cons hb xa_nil he2) he) he hpl
theorem x_intB {c : Bool} (B : Bx X P w K mg base k N nk) (m : Nat) (hm : mg "int" = none) (ha : XE X ρ e (.bl c)) (hj : nk[m]? = some (("int" : Str), NameKind.globalImplicit) := by rfl) (he : starEach (e :: []) X.env = (false, eval e X.env) :: starEach [] X.env := by rfl) (hpl : (backTo pos (starEach [] X.env)).any (·.1) = false := by rfl) : XE X ρ (.Call (.Name "int" p) [e] [] pos) (.int (if c then 1 else 0)) :=
  xe_intB (B.gl hj) (B.none hm) ha he hpl
/-- a < b < c upon plain values; the third part is asked where the first comparison holds -/
theorem op_no {f : Value → Value → Sem Value} : OpR X f (fun _ _ _ _ => False) := fun _ _ _ _ _ _ _ _ _ _ _ _ h => h.elim
theorem t_chain {op op' : CmpOp} {u v y : V} {k1 k2 : Bool} (ha : XE X ρ a (.v u)) (hb : XE X ρ b (.v v)) (h1 : Cmp op u v k1) (hc : k1 = true → XE X ρ c (.v y)) (h2 : k1 = true → Cmp op' v y k2) (he : lastMarks [op, op'] [b, c] = false := by with_unfolding_all rfl) :
    XT X ρ (.Compare a [op, op'] [b, c] pos) (k1 && k2) := by
  obtain ⟨r, g1, g2, g3, g4⟩ := h1.rule (X := X)
  cases k1 with
  | true =>
    obtain ⟨r', f1, f2, f3, f4⟩ := (h2 rfl).rule (X := X)
    refine PT.imp (pt_chain g1 f1 ha hb (hc rfl) he) fun σ H Q ⟨Bv, Bs, Hv, g, k⟩ => ⟨Bv, Bs, Hv, g, fun v1 H1 Hv1 q1 e1 r1 => ⟨Bv, Bs, Hv1, q1, fun v2 H2 Hv2 q2 e2 r2 => ?_⟩⟩
    rw [rp_v r1, rp_v r2]
    refine g2 _ _ ⟨true, rfl, ?_⟩
    exact iteT ⟨Bv, Bs, Hv2, q2, fun v3 H3 Hv3 q3 e3 r3 => by
      rw [rp_v r3]
      exact f2 _ _ ⟨_, rfl, k H3 Hv3 q3 ((e1.trans e2).trans e3)⟩⟩
  | false =>
    refine PT.imp (pt_chain g1 op_no ha hb (tc := fun _ _ _ => False) ⟨fun _ _ _ _ _ _ h => h.elim⟩ he) fun σ H Q ⟨Bv, Bs, Hv, g, k⟩ => ⟨Bv, Bs, Hv, g, fun v1 H1 Hv1 q1 e1 r1 => ⟨Bv, Bs, Hv1, q1, fun v2 H2 Hv2 q2 e2 r2 => ?_⟩⟩
    rw [rp_v r1, rp_v r2]
    exact g2 _ _ ⟨false, rfl, iteF ⟨_, rfl, k H2 Hv2 q2 (e1.trans e2)⟩⟩

/-! ### isinstance -/
/-- the kind of a datum -/
inductive Kd (K : PySem.W.Frag) : D → Value → Prop where
  | non : Kd K .non (.type "NoneType")
  | bl (b : Bool) : Kd K (.bl b) (.type "bool")
  | int (i : Int) : Kd K (.int i) (.type "int")
  | str (z : Str) : Kd K (.str z) (.type "str")
  | lst (l : List D) : Kd K (.lst l) (.type "list")
  | tup (l : List D) : Kd K (.tup l) (.type "tuple")
  | dct (ks : List Key) (l : List D) : Kd K (.dct ks l) (.type "dict")
  | obj (C : Addr) (ns : List Str) (l : List D) (cl : Cls K C) (ha : PySem.W.findIn K (.ref C) "__class__" = some (some (.builtin "object.__class__")))
      (hn : PySem.W.specialIn K (.builtin "object.__class__") "__get__" = some (some (.builtin "getset_descriptor.__get__"))) (htk : PySem.W.takesIn K (.builtin "object.__class__") = some true)
      (hm : PySem.W.mroIn K C (.type "object") = some true) : Kd K (.obj C ns l) (.ref C)
theorem Kd.ty {H : Hp} {x : V} {t : Value} (h : Kd K d t) (r : Rp K H d x) : TyX K H x t := by
  cases h with
  | non => rw [rp_v r]; exact .base .non
  | bl b => rw [rp_v r]; exact .base (.bl b)
  | int i => rw [rp_v r]; exact .base (.int i)
  | str z => rw [rp_v r]; exact .base (.str z)
  | lst l =>
    obtain ⟨a, xs, rfl, h1, h2⟩ := rp_lst r
    rcases h1 with (h1 | ⟨o, h1⟩) | ⟨o, its, n, h1, h2, _⟩
    · exact .base (.lst h1)
    · exact .base (.frz h1)
    · exact .kList h1 h2
  | tup l =>
    obtain ⟨a, xs, rfl, h1, h2⟩ := rp_tup r
    rcases h1 with (h1 | ⟨o, h1⟩) | ⟨o, its, n, h1, h2, _⟩
    · exact .base (.tup h1)
    · exact .fTuple h1
    · exact .kTuple h1 h2
  | dct ks l =>
    unfold Rp at r
    obtain ⟨a, xs, rfl, h1, _, _⟩ := r
    exact .base (.dK h1)
  | obj C ns l cl ha hn htk hm =>
    unfold Rp at r
    obtain ⟨a, dx, xs, rfl, h1, _, _⟩ := r
    exact .base (.ins h1 cl ha hn htk hm)
/-- isinstance(e, C): C a class by its global name -/
theorem x_isi {u t : Value} {c : V} {g : Str} {r : Bool} {q : D} {p2 : Pos} (B : Bx X P w K mg base k N nk) (j j2 : Nat) (hm : mg "isinstance" = none) (ha : XE X ρ e q) (hc : XE X ρ (.Name g p2) (.v c)) (hcl : ClsV c u) (hk : Kd K q t) (hr : PySem.W.kitOne K t u = some r)
    (hj : nk[j]? = some (("isinstance" : Str), NameKind.globalImplicit) := by rfl)
    (he : starEach [e, .Name g p2] X.env = (false, eval e X.env) :: starEach [.Name g p2] X.env := by rfl) (he2 : starEach [.Name g p2] X.env = (false, eval (.Name g p2) X.env) :: starEach [] X.env := by rfl) (hpl : (backTo pos (starEach [.Name g p2] X.env)).any (·.1) = false := by rfl) :
    XE X ρ (.Call (.Name "isinstance" p) [e, .Name g p2] [] pos) (.bl r) :=
  PE.imp (pe_callB call_isi (B.gl hj) (B.none hm) PyProof.Rows.boot_isinstance (xa_cons ha (xa_cons hc xa_nil he2) he) (he := he) (hpl := hpl)) fun σ H Q ⟨Bv, Bs, Hv, g, kk⟩ => ⟨Bv, Bs, Hv, g, fun vs H1 Hv1 g1 e1 r1 => by
    obtain ⟨x, r2, rfl, h1, h2⟩ := rpL_cons_inv r1
    obtain ⟨y, r3, rfl, h3, h4⟩ := rpL_cons_inv h2
    rw [rpL_nil_inv h4, rp_v h3]
    refine ⟨x, c, t, u, r, rfl, hcl, ?_, ?_, kk _ H1 Hv1 g1 e1 rp_v'⟩
    · have := hk.ty (H := H1) (rp_mono g1.vx.vh (by rw [B.hK] at h1; exact h1))
      rw [B.hK]
      exact this
    · rw [B.hK]
      exact hr⟩
/-- a built-in class by its name -/
theorem x_cls {id : String} (B : Bx X P w K mg base k N nk) (j : Nat) (hm : mg s = none) (hv : bootBuiltins s = some (.type id)) (hj : nk[j]? = some (s, .globalImplicit) := by rfl) (hn : s ≠ "__name__" := by decide +kernel) (hd : (s == ("__debug__" : Str)) = false := by decide +kernel) : XE X ρ (.Name s pos) (.v (.ty id)) :=
  xe_of (pe_bltn (B.gl hj) (B.none hm) hv (show RelV (.ty id) (.type id) from rfl) hn hd) fun _ _ _ q => q
/-! ### the law's end -/
open Classical in
noncomputable def phiLaw : List D → Ro := fun ds => if ∃ ns : List Int, ns.length ≤ 63 ∧ ds = [.lst (ns.map D.int)] then .val (.bl true) else .bad
theorem phiLaw_ok {ns : List Int} (h : ns.length ≤ 63) : phiLaw [.lst (ns.map D.int)] = .val (.bl true) := by
  unfold phiLaw
  rw [if_pos ⟨ns, h, rfl⟩]
theorem phiLaw_inv {ds : List D} (h : phiLaw ds ≠ .bad) : ∃ ns : List Int, ns.length ≤ 63 ∧ ds = [.lst (ns.map D.int)] := by
  unfold phiLaw at h
  split at h
  · assumption
  · exact absurd rfl h
/-- a def of the text, as the top has laid it -/
def DefAt (K : PySem.W.Frag) (mg : Str → Option Value) (x : Str) (st : Stmt) (ps : List Str) : Prop := ∃ f fd, Fun K x x st f fd ∧ mg x = some (.ref f) ∧ Binds K fd ps []
theorem def_fn {x qual : Str} {st : Stmt} {f : Addr} {fd : FuncData} {ps : List Str} {N : List Str} {nk : List (Str × NameKind)} {k n : Nat} {φ : List D → Ro} (F : Fun K x qual st f fd) (S : FnScope N ps (defScope st)) (hnk : (defScope st).names = nk) (hnd : (nk.map (·.1)).Nodup) (hn : ps.length = n)
    (body : ∀ (X : Cx) (W : WX) (ds : List D), Bx X P w K mg base k N nk → Bs X W → ds.length = n → φ ds ≠ .bad → ∃ o, XB X W (startE N ds) (defBody st) o ∧ Leads o (φ ds)) : FnOk P w K mg base (L2N.CX P w) (k + 1) f fd ps (spD K n φ) := by
  refine fn_ok0 F S hn fun X W ds ⟨cdv, A, outer, s, H, E, e⟩ B hl nb => ?_
  subst e
  exact body _ W ds ⟨rfl, rfl, rfl, rfl, rfl, B.room, rfl, rfl, fun j s kd hj => ⟨kd, by
    show (defScope st).names.lookup s = some kd
    rw [hnk]
    exact lookup_at hnd hj, .inl rfl⟩, S.nd⟩ ⟨B.po, B.tk, B.fn, S.kind, rfl, rfl⟩ hl nb
theorem def_ok {x : Str} {st : Stmt} {ps : List Str} {N : List Str} {nk : List (Str × NameKind)} {k n : Nat} {φ : List D → Ro} (T : DefAt K mg x st ps) (S : FnScope N ps (defScope st)) (hnk : (defScope st).names = nk) (hnd : (nk.map (·.1)).Nodup) (hn : ps.length = n)
    (body : ∀ (X : Cx) (W : WX) (ds : List D), Bx X P w K mg base k N nk → Bs X W → ds.length = n → φ ds ≠ .bad → ∃ o, XB X W (startE N ds) (defBody st) o ∧ Leads o (φ ds)) : FnC P w K mg base x (k + 1) n φ := by
  obtain ⟨f, fd, F, hm, hb⟩ := T
  exact ⟨f, fd, ps, hm, def_fn F S hnk hnd hn body, F.kp, hb⟩
end
theorem def_at {K : PySem.W.Frag} {h : Heap} {mg : Str → Option Value} {x : Str} {st : Stmt} {ps : List Str} {f : Addr} {oc : Value} {od an : Option Addr} {osl : Array (Option Value)} {kV dc pm cd ct : Value} (X : K.In h) (G : h.Ns mainGlobals mg)
    (a : PySem.W.nsIn K mainGlobals x = some (some (.ref f))) (l : K.lookup f = some ⟨oc, od, .func (PySem.W.fnOf x x (defArgs st) (defBody st) (defScope st) .none kV dc pm an cd ct), osl⟩) (c : PySem.W.codeIn K cd x = true) (k : PySem.W.keepIn K (.ref f) = true)
    (hb : ∀ (kV doc pm : Value) (an : Option Addr) (cdv ct : Value) (us : List Value), us.length = ps.length → bindArgs (PySem.W.fnOf x x (defArgs st) (defBody st) (defScope st) .none kV doc pm an cdv ct) ⟨us, []⟩ = pure (ps.zip us)) : DefAt K mg x st ps := by
  have F := fun_mk (st := st) l c k
  exact ⟨f, _, F, PySem.W.mg_of X G a, F.binds hb⟩
/-- the law's walk from its contract -/
theorem law_walk {l : PySem.W.OpenLaw} {k : Nat} {q : Program} {loose : List Str} {XP : (Str → Option Value) → Heap → Prop} {YP : World → Heap → Prop} {d : DefRec} {K : Params → PySem.W.Frag} {x : Str}
    (hn : l.most = some 63) (hdf : d.params.defaults = []) (hr : Room k callerA) (hY : ∀ (w : World) (h : Heap), YP w h → (K w.params).In h)
    (F : ∀ (w : World) (mg : Str → Option Value) (fa : Addr) (h : Heap), (K w.params).In h → h.Ns mainGlobals mg → mg d.name = some (.ref fa) →
      ∃ fd : FuncData, (∀ (s : Shared) (u : Value), BindsTo s fd ⟨[u], []⟩ [(x, u)]) ∧
        ∀ base : Heap, (K w.params).In base → base.Ns mainGlobals mg → FnOk l.prog w (K w.params) mg base (L2N.CX l.prog w) k fa fd [x] (spD (K w.params) 1 phiLaw)) :
    PySem.W.WalkO q loose XP YP l.row.toRowW d [] (fun f vs => PySem.call f vs) :=
  L2.walk_of (n := 63) (k := k) (x := x) (CX := fun w => L2N.CX l.prog w) (sp := fun w => spD (K w.params) 1 phiLaw) hn (by decide) hdf hr hY F
    (fun w H a ns hl _ hS => ⟨H, [.lst (ns.map D.int)], Ex.refl _, rpL_cons (by
      unfold Rp
      exact ⟨a, ns.map V.int, rfl, hS, by
        rw [show ns.map D.int = (ns.map V.int).map D.v by rw [List.map_map]; rfl]
        exact rpL_vs'⟩) rpL_nil, rfl, by
      rw [phiLaw_ok hl]
      exact fun v H' Hv' _ r => rp_v r⟩) fun w H s e s' h => by
      obtain ⟨_, _, _, _, _, _, _, _, _, _, _, _, z⟩ := h
      exact z.elim
end PL
namespace PL
open PySem PySem.Spec L2
open Evl (Ex)
section
variable {X : Cx} {P : Program} {w : World} {K : PySem.W.Frag} {mg : Str → Option Value} {base : Heap} {k k' n : Nat} {N : List Str} {nk : List (Str × NameKind)} {W : WX}
variable {ρ ρ' ρ1 ρ2 : List E} {e a b c tg : Expr} {es : List Expr} {d : D} {ds l : List D} {pos p p' : Pos} {s : Str} {o o1 : Out} {kd : NameKind} {φ : List D → Ro} {body sts other more : List Stmt} {st : Stmt} {B : Bool}

theorem xb_end (w : WkL ρ ρ') : XB X W ρ [] (.nx ρ') := xb_nil.wkO w
/-- an if whose ways meet again -/
theorem xb_ifj {α : Type} (R : α → List E) (p : α → Prop) (h : XT X ρ c B) (h1 : B = true → ∃ y, p y ∧ XB X W ρ sts (.nx (R y))) (h2 : B = false → ∃ y, p y ∧ XB X W ρ other (.nx (R y))) (h3 : ∀ y, p y → XB X W (R y) more o) : XB X W ρ (.If c sts other pos :: more) o := by
  cases B with
  | true =>
    obtain ⟨y, hp, hy⟩ := h1 rfl
    exact xb_cons (xs_if h (fun _ => hy) nofun) (h3 y hp)
  | false =>
    obtain ⟨y, hp, hy⟩ := h2 rfl
    exact xb_cons (xs_if h nofun fun _ => hy) (h3 y hp)
/-- a test that is known -/
theorem xb_ifF (h : XT X ρ c B) (hB : B = false) (h2 : XB X W ρ more o) : XB X W ρ (.If c sts [] pos :: more) o := by
  subst hB
  exact xb_cons (xs_if h nofun fun _ => xb_nil) h2
theorem xb_ifT (h : XT X ρ c B) (hB : B = true) (h2 : XB X W ρ sts o) (q : Stop o) : XB X W ρ (.If c sts other pos :: more) o := by
  subst hB
  exact xb_stop (xs_if h (fun _ => h2) nofun) q
theorem x_set (B : Bx X P w K mg base k N nk) (S : Bs X W) (i j : Nat) (h : XE X ρ e d) (t : XB X W (ρ.set i (.val d)) more o) (hi : N[i]? = some s := by rfl) (hj : nk[j]? = some (s, kd) := by rfl) (hl : isLoc kd = true := by rfl)
    (hs : swapsWith e (some (.Name s p')) pos.line X.env = pure false := by rfl) : XB X W ρ (.Assign [.Name s p'] e pos :: more) o :=
  xb_cons (xs_set i B.nd (B.at_ hi) (B.loc hj hl) (S.fn _) h hs) t
theorem x_setO (B : Bx X P w K mg base k N nk) (S : Bs X W) (i j : Nat) (h : XO X ρ e l) (t : XB X W (ρ.set i (.own l)) more o) (hi : N[i]? = some s := by rfl) (hj : nk[j]? = some (s, kd) := by rfl) (hl : isLoc kd = true := by rfl)
    (hs : swapsWith e (some (.Name s p')) pos.line X.env = pure false := by rfl) : XB X W ρ (.Assign [.Name s p'] e pos :: more) o :=
  xb_cons (xs_setO i B.nd (B.at_ hi) (B.loc hj hl) (S.fn _) h hs) t
theorem x_tgt (B : Bx X P w K mg base k N nk) (hf : ∀ s, X.fn s = true) (i j : Nat) (hi : N[i]? = some s := by rfl) (hj : nk[j]? = some (s, kd) := by rfl) (hl : isLoc kd = true := by rfl) : XG X ρ (.Name s p) d (ρ.set i (.val d)) :=
  xg_name i B.nd (B.at_ hi) (B.loc hj hl) (.inl (hf _))
theorem x_for (B : Bx X P w K mg base k N nk) (S : Bs X W) {it : Expr} (hi : XI X ρ tg it ds) (h : FoD X W tg body ds ρ (.nx ρ1)) (t : XB X W ρ1 more o) (hs : ∀ x, foldedSetIterable it X.env x = pure x := by intro _; rfl) : XB X W ρ (.For tg it body [] pos :: more) o :=
  xb_cons (xs_for S.po B.calm hi h hs) t
theorem x_ret (h : XE X ρ e d) : XB X W ρ (.Return (some e) pos :: more) (.ret d) := xb_stop (xs_ret h) trivial
theorem x_range1 {j : Int} (B : Bx X P w K mg base k N nk) (m : Nat) (hm : mg "range" = none) (ha : XE X ρ a (.int j)) (hj : -(2 ^ 62) ≤ j ∧ j < 2 ^ 62) (hn : nk[m]? = some (("range" : Str), NameKind.globalImplicit) := by rfl) (he : starEach [a] X.env = [(false, eval a X.env)] := by rfl) : XI X ρ tg (.Call (.Name "range" p) [a] [] pos) (rgD 0 j.toNat) :=
  xi_range1 (B.gl hn) (B.none hm) ha hj he
theorem x_range2 {i j : Int} (B : Bx X P w K mg base k N nk) (m : Nat) (hm : mg "range" = none) (ha : XE X ρ a (.int i)) (hb : XE X ρ b (.int j)) (hj : -(2 ^ 62) ≤ i ∧ i < 2 ^ 62 ∧ -(2 ^ 62) ≤ j ∧ j < 2 ^ 62) (hn : nk[m]? = some (("range" : Str), NameKind.globalImplicit) := by rfl)
    (hs : starEach [a, b] X.env = [(false, eval a X.env), (false, eval b X.env)] := by rfl) (hs2 : starEach [b] X.env = [(false, eval b X.env)] := by rfl) : XI X ρ tg (.Call (.Name "range" p) [a, b] [] pos) (rgD i (j - i).toNat) :=
  xi_range2 (B.gl hn) (B.none hm) ha hb hj hs hs2

/-- a loop that keeps its frame -/
theorem fo_all : ∀ {ds : List D}, (∀ d ∈ ds, ∃ ρ1, XG X ρ tg d ρ1 ∧ XB X W ρ1 body (.nx ρ)) → FoD X W tg body ds ρ (.nx ρ)
  | [], _ => .nil
  | d :: ds, h => by
    obtain ⟨ρ1, h1, h2⟩ := h d List.mem_cons_self
    exact .next h1 h2 (.inl rfl) (fo_all fun d hd => h d (List.mem_cons_of_mem _ hd))
theorem blk_of {scope : Scope} {nkc : List (Str × NameKind)} {Q : Cx → Prop} (h1 : scope.names = nkc) (h2 : (nkc.map (·.1)).Nodup) (B : Bx X P w K mg base k N nk) (q : ∀ Y : Cx, Bx Y P w K mg base k N nkc → Q Y) : Blk X scope Q := fun s H C cl fp => q _ (B.blk h1 h2 s H C cl fp)
theorem x_tgw {vs : List Nat} (B : Bx X P w K mg base k N nk) (i j : Nat) (hj : nk[j]? = some (s, .local) := by rfl) (hi : N[i]? = some s := by rfl) (hv : i ∈ vs := by decide) : XGw X vs ρ (.Name s p) d (ρ.set i (.val d)) :=
  xgw_name i B.nd (B.at_ hi) (B.loc hj rfl) (.inr (by
    obtain ⟨kd', h1, rfl | ⟨z, _⟩⟩ := B.hs j s _ hj
    · exact h1
    · cases z)) hv
end
/-! ### the law's def -/
theorem law_mk {P : Program} {w : World} {K : PySem.W.Frag} {h : Heap} {mg : Str → Option Value} {st : Stmt} {p : Str} {fa f : Addr} {k : Nat} {oc : Value} {od an : Option Addr} {osl : Array (Option Value)} {kV dc pm cd ct : Value} (X : K.In h) (G : h.Ns mainGlobals mg) (hfa : mg "law" = some (.ref fa))
    (a : PySem.W.nsIn K mainGlobals "law" = some (some (.ref f))) (l : K.lookup f = some ⟨oc, od, .func (PySem.W.fnOf "law" "law" (defArgs st) (defBody st) (defScope st) .none kV dc pm an cd ct), osl⟩) (c : PySem.W.codeIn K cd "law" = true) (kp : PySem.W.keepIn K (.ref f) = true)
    (hb : ∀ (kV doc pm : Value) (an : Option Addr) (cdv ct : Value) (us : List Value), us.length = ([p] : List Str).length → bindArgs (PySem.W.fnOf "law" "law" (defArgs st) (defBody st) (defScope st) .none kV doc pm an cdv ct) ⟨us, []⟩ = pure (([p] : List Str).zip us))
    (hB : ∀ (s : Shared) (v : Value), BindsTo s (PySem.W.fnOf "law" "law" (defArgs st) (defBody st) (defScope st) .none kV dc pm an cd ct) ⟨[v], []⟩ [(p, v)])
    (F : ∀ (fd : FuncData), Fun K "law" "law" st f fd → ∀ base : Heap, FnOk P w K mg base (L2N.CX P w) k f fd [p] (spD K 1 phiLaw)) :
    ∃ fd : FuncData, (∀ (s : Shared) (u : Value), BindsTo s fd ⟨[u], []⟩ [(p, u)]) ∧ ∀ base : Heap, K.In base → base.Ns mainGlobals mg → FnOk P w K mg base (L2N.CX P w) k fa fd [p] (spD K 1 phiLaw) := by
  have e := hfa.symm.trans (PySem.W.mg_of X G a)
  cases e
  exact ⟨_, hB, fun base _ _ => F _ (fun_mk (st := st) l c kp) base⟩
/-! ### cells of the script -/
theorem getD_map (ns : List Int) (i : Nat) : (ns.map D.int).getD i (.int 0) = .int (ns.getD i 0) := by
  rw [List.getD_eq_getElem?_getD, List.getD_eq_getElem?_getD, List.getElem?_map]
  cases ns[i]? <;> rfl
theorem ix_nat {l : List D} {k : Int} {d : D} (h0 : 0 ≤ k) (h : l[k.toNat]? = some d) : atI l k = some d := by
  have e : ((k.toNat : Nat) : Int) = k := by omega
  rw [← e]
  exact atI_nat h
end PL
namespace PL
open PySem PySem.Spec L2
open Evl (Ex)
theorem boot_int : bootBuiltins "int" = some (.type "int") := PyProof.Rows.boot_int
theorem boot_bool : bootBuiltins "bool" = some (.type "bool") := PyProof.Rows.boot_bool
theorem boot_str : bootBuiltins "str" = some (.type "str") := by decide +kernel
theorem boot_list : bootBuiltins "list" = some (.type "list") := by decide +kernel
/-- isinstance of built-in kinds -/
def isB (a b : String) : Bool := a == b || (a == "bool" && b == "int")
def kinds : List String := ["NoneType", "bool", "int", "str", "list", "tuple", "dict"]
def clss : List String := ["bool", "int", "str", "list", "tuple", "dict"]
theorem kinds_ok : (kinds.all fun a => clss.all fun b => decide (kitB a b = some (isB a b))) = true := by decide +kernel
theorem kit_is {K : PySem.W.Frag} {a b : String} (ha : a ∈ kinds := by decide) (hb : b ∈ clss := by decide) : PySem.W.kitOne K (.type a) (.type b) = some (isB a b) := by
  have h := kinds_ok
  rw [List.all_eq_true] at h
  have h2 := h a ha
  rw [List.all_eq_true] at h2
  exact kit_ty (of_decide_eq_true (h2 b hb))
section
variable {X : Cx} {P : Program} {w : World} {K : PySem.W.Frag} {mg : Str → Option Value} {base : Heap} {k k' n : Nat} {N : List Str} {nk : List (Str × NameKind)} {W : WX}
variable {ρ ρ' ρ1 ρ2 : List E} {e a b c tg : Expr} {es : List Expr} {d : D} {ds l : List D} {pos p p' : Pos} {s : Str} {o o1 : Out} {kd : NameKind} {φ : List D → Ro} {body sts other more : List Stmt} {st : Stmt} {B : Bool}

theorem x_str {i : Int} (B : Bx X P w K mg base k N nk) (m : Nat) (hm : mg "str" = none) (ha : XE X ρ e (.int i)) (hz : i.natAbs.log2 < 1920) (hj : nk[m]? = some (("str" : Str), NameKind.globalImplicit) := by rfl) (he : starEach (e :: []) X.env = (false, eval e X.env) :: starEach [] X.env := by rfl) (hpl : (backTo pos (starEach [] X.env)).any (·.1) = false := by rfl) : XE X ρ (.Call (.Name "str" p) [e] [] pos) (.str (toString i : String)) :=
  xe_callT (us := [.int i]) call_str_int (B.gl hj) (B.none hm) boot_str (xa_cons ha xa_nil he) (fun _ _ q => ⟨i, rfl, hz, q⟩) (he := he) (hpl := hpl)
theorem x_sum {ns : List Int} (B : Bx X P w K mg base k N nk) (m : Nat) (hm : mg "sum" = none) (ha : XE X ρ e (.lst (ns.map D.int))) (hj : nk[m]? = some (("sum" : Str), NameKind.globalImplicit) := by rfl) (he : starEach (e :: []) X.env = (false, eval e X.env) :: starEach [] X.env := by rfl) (hpl : (backTo pos (starEach [] X.env)).any (·.1) = false := by rfl) : XE X ρ (.Call (.Name "sum" p) [e] [] pos) (.int ns.sum) :=
  PE.imp (pe_callB (cr_sum B.calm) (B.gl hj) (B.none hm) (by decide +kernel) (xa_cons ha xa_nil he) (he := he) (hpl := hpl)) fun σ H Q ⟨Bv, Bs, Hv, g, k⟩ => ⟨Bv, Bs, Hv, g, fun vs H1 Hv1 g1 e1 r1 => by
    obtain ⟨x, r, rfl, h1, h2⟩ := rpL_cons_inv r1
    rw [rpL_nil_inv h2]
    obtain ⟨q, xs, rfl, h3, h4⟩ := rp_lst h1
    have e2 : xs = ns.map V.int := rpL_vs (vs := ns.map V.int) (by
      rw [List.map_map]
      exact h4)
    subst e2
    exact ⟨q, ns, rfl, Evl.ex_l g1.vx.vh h3, k _ H1 Hv1 g1 e1 rp_v'⟩⟩
/-! ### a comprehension's names -/
def isCF : NameKind → Bool
  | .cell => true
  | .free => true
  | _ => false
def blkB (N : List Str) (nk : List (Str × NameKind)) (scope : Scope) (own : List (Str × Nat)) : Bool :=
  (match scope.kind with | .function => true | _ => false) && (scope.names.all fun y => decide (scope.names.lookup y.1 = some y.2)) && (own.all fun p => decide (N[p.2]? = some p.1)) &&
    (scope.names.all fun y => match y.2 with
      | .free => nk.any fun z => decide (z.1 = y.1) && isCF z.2
      | .local => decide (y.1 ∈ own.map (·.1)) || decide (y.1 ∉ N)
      | .cell => decide (y.1 ∈ own.map (·.1)) || decide (y.1 ∉ N)
      | _ => true)
theorem okb {scope : Scope} {own : List (Str × Nat)} (B : Bx X P w K mg base k N nk) (h : blkB N nk scope own = true := by decide +kernel) : BlkOk X.N X.env.scope scope own := by
  unfold blkB at h
  simp only [Bool.and_eq_true, List.all_eq_true, decide_eq_true_eq] at h
  obtain ⟨⟨⟨h1, h2⟩, h3⟩, h4⟩ := h
  refine ⟨?_, h2, fun p hp => by rw [B.hN]; exact h3 p hp, fun y hy e => ?_, fun y hy e => ?_⟩
  · split at h1
    · assumption
    · cases h1
  · have q := h4 y hy
    simp only [e, List.any_eq_true, Bool.and_eq_true, decide_eq_true_eq] at q
    obtain ⟨z, hz, e1, e2⟩ := q
    obtain ⟨j, hj⟩ := List.getElem?_of_mem hz
    obtain ⟨kd', h5, rfl | ⟨h6, rfl⟩⟩ := B.hs j z.1 z.2 hj
    · rw [e1] at h5
      obtain ⟨z1, z2⟩ := z
      simp only at h5 e2
      cases z2 <;> first | (cases e2; done) | exact .inl h5 | exact .inr h5
    · rw [e1] at h5
      exact .inl h5
  · have q := h4 y hy
    rw [B.hN]
    rcases e with e | e <;> (simp only [e, Bool.or_eq_true, decide_eq_true_eq] at q; exact q)
end
/-! ### contracts by what is handed in -/
def fI (f : Int → Ro) : List D → Ro
  | [.v (.int a)] => f a
  | _ => .bad
def fII (f : Int → Int → Ro) : List D → Ro
  | [.v (.int a), .v (.int b)] => f a b
  | _ => .bad
def fLI (f : List D → Int → Ro) : List D → Ro
  | [.lst l, .v (.int a)] => f l a
  | _ => .bad
def fV (f : D → Ro) : List D → Ro
  | [d] => f d
  | _ => .bad
def fVVV (f : D → D → D → Ro) : List D → Ro
  | [d, e, g] => f d e g
  | _ => .bad
theorem inv_I {f : Int → Ro} {ds : List D} (h : fI f ds ≠ .bad) : ∃ a, ds = [.int a] ∧ f a ≠ .bad := by
  unfold fI at h
  split at h
  · exact ⟨_, rfl, h⟩
  · exact absurd rfl h
theorem inv_II {f : Int → Int → Ro} {ds : List D} (h : fII f ds ≠ .bad) : ∃ a b, ds = [.int a, .int b] ∧ f a b ≠ .bad := by
  unfold fII at h
  split at h
  · exact ⟨_, _, rfl, h⟩
  · exact absurd rfl h
theorem inv_LI {f : List D → Int → Ro} {ds : List D} (h : fLI f ds ≠ .bad) : ∃ l a, ds = [.lst l, .int a] ∧ f l a ≠ .bad := by
  unfold fLI at h
  split at h
  · exact ⟨_, _, rfl, h⟩
  · exact absurd rfl h
theorem inv_V {f : D → Ro} {ds : List D} (h : fV f ds ≠ .bad) : ∃ d, ds = [d] ∧ f d ≠ .bad := by
  unfold fV at h
  split at h
  · exact ⟨_, rfl, h⟩
  · exact absurd rfl h
theorem inv_VVV {f : D → D → D → Ro} {ds : List D} (h : fVVV f ds ≠ .bad) : ∃ a b c, ds = [a, b, c] ∧ f a b c ≠ .bad := by
  unfold fVVV at h
  split at h
  · exact ⟨_, _, _, rfl, h⟩
  · exact absurd rfl h
theorem if_ok {c : Prop} [Decidable c] {r : Ro} (h : (if c then r else .bad) ≠ .bad) : c := by
  by_cases q : c
  · exact q
  · rw [if_neg q] at h
    exact absurd rfl h
/-- whether a thing is a whole number -/
def isWhole : D → Bool
  | .v (.int _) => true
  | _ => false
/-! ### globals of the written part -/
section
variable {K : PySem.W.Frag} {h : Heap} {mg : Str → Option Value} {s : Str}
theorem gl_int {i : Int} {t : Tok} (X : K.In h) (G : h.Ns mainGlobals mg) (a : PySem.W.nsIn K mainGlobals s = some (some (.int i t))) : GlD K mg s (.int i) := ⟨_, .int i, PySem.W.mg_of X G a, ⟨t, rfl⟩, fun _ => rp_v'⟩
theorem gl_str {z : Str} {t : Tok} (X : K.In h) (G : h.Ns mainGlobals mg) (a : PySem.W.nsIn K mainGlobals s = some (some (.str z t))) : GlD K mg s (.str z) := ⟨_, .str z, PySem.W.mg_of X G a, ⟨t, rfl⟩, fun _ => rp_v'⟩
def absL : List Value → Option (List V)
  | [] => some []
  | u :: r => match absV u, absL r with
    | some x, some xs => some (x :: xs)
    | _, _ => none
theorem rel_of_abs {u : Value} {x : V} (h : absV u = some x) : RelV x u := by
  cases u <;> simp only [absV] at h <;> first | (cases h; done) | (cases h; first | rfl | exact ⟨_, rfl⟩)
theorem vals_of_abs : ∀ {us : List Value} {xs : List V}, absL us = some xs → Vals xs us
  | [], xs, h => by
    cases h
    exact .nil
  | u :: r, xs, h => by
    unfold absL at h
    cases h1 : absV u with
    | none =>
      rw [h1] at h
      cases h
    | some x =>
      cases h2 : absL r with
      | none =>
        rw [h1, h2] at h
        cases h
      | some ys =>
        rw [h1, h2] at h
        cases h
        exact .cons (rel_of_abs h1) (vals_of_abs h2)
def tupOf (o : Obj) : Option (List V) := if o.cls == .type "tuple" then (match o.data with
  | .seq its _ => if its.size ≤ 1000 then absL its.toList else none
  | _ => none) else none
theorem gl_tup {b : Addr} {o : Obj} {xs : List V} (X : K.In h) (G : h.Ns mainGlobals mg) (a : PySem.W.nsIn K mainGlobals s = some (some (.ref b))) (q : K.lookup b = some o) (r : tupOf o = some xs) : GlD K mg s (.tup (xs.map D.v)) := by
  refine ⟨_, .ref b, PySem.W.mg_of X G a, rfl, fun H => ?_⟩
  unfold tupOf at r
  split at r
  · rename_i hc
    cases hd : o.data with
    | seq its n =>
      rw [hd] at r
      simp only at r
      split at r
      · rename_i hz
        unfold Rp
        exact ⟨b, xs, rfl, .inr ⟨o, its, n, q, by simpa using hc, hd, Evl.sz_of (by omega), vals_of_abs r⟩, rpL_vs'⟩
      · cases r
    | _ =>
      rw [hd] at r
      cases r
  · cases r
end
end PL
namespace PL
open PySem PySem.Spec L2
open Evl (Ex)
/-! ### == of data -/
mutual
def toPy : D → Option PyData
  | .v .non => some .none
  | .v (.bl b) => some (.bool b)
  | .v (.int i) => some (.int i)
  | .v (.str z) => some (.str z)
  | .v _ => none
  | .tup l => (toPyL l).map PyData.tuple
  | .lst l => (toPyL l).map PyData.list
  | .obj _ _ _ => none
  | .dct _ _ => none
  | .pin _ _ => none
def toPyL : List D → Option (List PyData)
  | [] => some []
  | d :: l => match toPy d, toPyL l with
    | some p, some ps => some (p :: ps)
    | _, _ => none
end
section
variable {K : PySem.W.Frag} {H : Hp}
mutual
theorem dp_of : ∀ {d : D} {p : PyData} {u : V}, toPy d = some p → Rp K H d u → Dp K H u p
  | .v x, p, u, h, r => by
    rw [rp_v r]
    cases x <;> simp only [toPy] at h <;> first | (cases h; done) | (cases h; constructor)
  | .tup l, p, u, h, r => by
    obtain ⟨a, xs, rfl, h1, h2⟩ := rp_tup r
    unfold toPy at h
    cases q : toPyL l with
    | none =>
      rw [q] at h
      cases h
    | some ps =>
      rw [q] at h
      cases h
      exact .tup h1 (dpL_of q h2)
  | .lst l, p, u, h, r => by
    obtain ⟨a, xs, rfl, h1, h2⟩ := rp_lst r
    unfold toPy at h
    cases q : toPyL l with
    | none =>
      rw [q] at h
      cases h
    | some ps =>
      rw [q] at h
      cases h
      exact .lst h1 (dpL_of q h2)
  | .obj _ _ _, p, u, h, r => by
    unfold toPy at h
    cases h
  | .dct _ _, p, u, h, r => by
    unfold toPy at h
    cases h
  | .pin _ _, p, u, h, r => by
    unfold toPy at h
    cases h
theorem dpL_of : ∀ {l : List D} {ps : List PyData} {xs : List V}, toPyL l = some ps → RpL K H l xs → DpAll K H xs ps
  | [], ps, xs, h, r => by
    rw [rpL_nil_inv r]
    unfold toPyL at h
    cases h
    exact .nil
  | d :: l, ps, xs, h, r => by
    obtain ⟨x, r', rfl, h1, h2⟩ := rpL_cons_inv r
    unfold toPyL at h
    cases q : toPy d with
    | none =>
      rw [q] at h
      cases h
    | some p =>
      cases q2 : toPyL l with
      | none =>
        rw [q, q2] at h
        cases h
      | some ps' =>
        rw [q, q2] at h
        cases h
        exact .cons (dp_of q h1) (dpL_of q2 h2)
end
end
/-- what == of two data gives -/
structure EqD (d e : D) (b : Bool) : Prop where
  ex : ∃ p q, toPy d = some p ∧ toPy e = some q ∧ SeqAt.shaped p = true ∧ SeqAt.shaped q = true ∧ PyData.eqv p q = b
section
variable {X : Cx} {P : Program} {w : World} {K : PySem.W.Frag} {mg : Str → Option Value} {base : Heap} {k k' n : Nat} {N : List Str} {nk : List (Str × NameKind)} {W : WX}
variable {ρ ρ' ρ1 ρ2 : List E} {e a b c tg : Expr} {es : List Expr} {d f : D} {ds l m : List D} {pos p p' : Pos} {s : Str} {o o1 : Out} {kd : NameKind} {φ : List D → Ro} {body sts other more : List Stmt} {st : Stmt} {Bo : Bool}
/-! ### a list, whoever holds it, its items told by the view -/
def tQ (K : PySem.W.Frag) (ρ : List E) (l : List D) : TE := fun σ H Q => ∃ Bv Bs Hv, Sg K Bv Bs Hv H ρ σ ∧ ∀ q xs H' Hv', Sg K Bv Bs Hv' H' ρ σ → Vx Hv H Hv' H' → SqL K H' q xs → RpL K Hv' l xs → Q (.ref q) H'
abbrev XQ (X : Cx) (ρ : List E) (e : Expr) (l : List D) : Prop := PE X e (tQ X.K ρ l)
theorem XE.q (h : XE X ρ e (.lst l)) : XQ X ρ e l := PE.imp h fun σ H Q ⟨Bv, Bs, Hv, g, k⟩ => ⟨Bv, Bs, Hv, g, fun v H' Hv' g' x r => by
  obtain ⟨q, xs, rfl, h1, h2⟩ := rp_lst r
  exact k q xs H' Hv' g' x (Evl.ex_l g'.vx.vh h1) h2⟩
theorem XO.q (h : XO X ρ e l) : XQ X ρ e l := PE.imp h fun σ H Q ⟨Bv, Bs, Hv, g, k⟩ => ⟨Bv, Bs, Hv, g, fun q xs H' Hv' g' x h1 h2 h3 h4 h5 h6 => k q xs H' Hv' g' x (.inl (.inl h3)) h4⟩
theorem x_ownQ (B : Bx X P w K mg base k N nk) (i j : Nat) (hr : ρ[i]? = some (.own l) := by rfl) (hi : N[i]? = some s := by rfl) (hj : nk[j]? = some (s, kd) := by rfl) (hv : isVis kd = true := by rfl) (hd : (s == ("__debug__" : Str)) = false := by decide +kernel) (hcd : (s == ("__classdict__" : Str)) = false := by decide +kernel) : XQ X ρ (.Name s pos) l :=
  PE.imp (pe_var (i := i) (B.at_ hi) (B.vis hj hv) hd hcd) fun σ H Q ⟨Bv, Bs, Hv, g, k⟩ => by
    obtain ⟨q, xs, h1, h2, h3, h4, h5⟩ := g.own hr
    exact ⟨_, h1, k q xs H Hv g (Vx.refl g.vx.vh) (.inl (.inl h4)) h5⟩
theorem x_ixQ {i : Int} (ha : XQ X ρ a l) (hb : XE X ρ b (.int i)) (hi : atI l i = some d) (hs : PlainIx b := by exact fun _ _ => rfl) : XE X ρ (.Subscript a b pos) d :=
  PE.imp (pe_ix ix_list ha hb hs) fun σ H Q ⟨Bv, Bs, Hv, g, k⟩ => ⟨Bv, Bs, Hv, g, fun q xs H1 Hv1 g1 e1 h3 h4 => ⟨Bv, Bs, Hv1, g1, fun v2 H2 Hv2 g2 e2 r2 => by
    obtain ⟨u, h5, h6⟩ := atI_rel (rpL_mono e2.vv h4) hi
    exact ⟨q, xs, i, u, rfl, rp_v r2, Evl.ex_l e2.hh h3, h5, k u H2 Hv2 g2 (e1.trans e2) h6⟩⟩⟩
/-- list + list, whoever holds them -/
def rCatL (K : PySem.W.Frag) : R2 := fun x y H Q => ∃ l b xs zs, x = .ref l ∧ y = .ref b ∧ SqL K H l xs ∧ SqL K H b zs ∧ xs.length + zs.length ≤ sizeLine ∧ ∀ p, H p = none → Q (.ref p) (upd H p (.lst (xs ++ zs)))
theorem op_catL : OpR X (binaryOp .Add) (rCatL X.K) := by
  intro pins s σ H x y v u Q I rx ry h
  obtain ⟨l, b, xs, zs, rfl, rfl, hH, hB, hz, q⟩ := h
  cases rx
  cases ry
  obtain ⟨its, r, pl, hl⟩ := I.list hH
  obtain ⟨its2, r2, pl2, hl2⟩ := I.list hB
  obtain ⟨⟨cls, dd, data, sl⟩, ho, hc, n, hd⟩ := pl.isList
  obtain ⟨⟨cls2, dd2, data2, sl2⟩, ho2, hc2, n2, hd2⟩ := pl2.isList
  simp only at hc hd hc2 hd2
  subst hc hd hc2 hd2
  have e : its.toArray ++ its2.toArray = (its ++ its2).toArray := by simp
  have l1 := r.length
  have l2 := r2.length
  refine PySem.concat_meets ⟨_, ho, rfl⟩ ⟨_, ho2, rfl⟩ noFill_list_add seq_list_add PySem.F.slot_list_add PySem.F.entry_list_add (PySem.F.args_list_add_2 _ _) (PyProof.Rows.list_addW l b its.toArray its2.toArray n n2 dd dd2 sl sl2 (by rw [List.size_toArray, List.size_toArray]; omega)) ⟨ho, ho2, ?_⟩
  rw [e]
  exact ⟨.ref _, _, I.lnew (t' := s.toks) (r.append r2) (by rw [List.length_append]; omega), rfl, q _ I.fresh⟩
theorem x_catO (ha : XQ X ρ a l) (hb : XQ X ρ b m) (hl : l.length + m.length ≤ 100000) : XO X ρ (.BinOp a .Add b pos) (l ++ m) :=
  PE.imp (pe_op op_catL ha hb) fun σ H Q ⟨Bv, Bs, Hv, g, k⟩ => ⟨Bv, Bs, Hv, g, fun q xs H1 Hv1 g1 e1 h1 h2 => ⟨Bv, Bs, Hv1, g1, fun q2 ys H2 Hv2 g2 e2 h3 h4 => by
    refine ⟨q, q2, xs, ys, rfl, rfl, Evl.ex_l e2.hh h1, h3, Evl.sz_of (by rw [rpL_len h2, rpL_len h4]; exact hl), fun r hr => ?_⟩
    have x := e1.trans e2
    exact k r _ _ _ (g2.newH hr) (x.trans (Vx.newH g2.vx.vh hr)) (Evl.fresh_back g2.vx.hh hr) (Evl.fresh_back g2.vx.vh hr) upd_same (rpL_app (rpL_mono e2.vv h2) h4) (g2.notOwn_new hr) (Evl.fresh_back x.hh hr)⟩⟩
/-! ### slices -/
def tPt (K : PySem.W.Frag) (ρ : List E) (i : Option Int) : TO := fun σ H Q => ∃ Bv Bs Hv, Sg K Bv Bs Hv H ρ σ ∧ ∀ H' Hv', Sg K Bv Bs Hv' H' ρ σ → Vx Hv H Hv' H' → Q i H'
abbrev XP (X : Cx) (ρ : List E) (e : Option Expr) (i : Option Int) : Prop := PO X e (tPt X.K ρ i)
theorem PO.imp {e : Option Expr} {t t' : TO} (h : PO X e t) (i : ∀ σ H Q, t' σ H Q → t σ H Q) : PO X e t' := ⟨fun pins s σ H Q I w => h.run pins s σ H Q I (i σ H Q w)⟩
theorem xp_none : XP X ρ none none := PO.imp po_none fun σ H Q ⟨Bv, Bs, Hv, g, k⟩ => k H Hv g (Vx.refl g.vx.vh)
theorem xp_some {i : Int} (h : XE X ρ e (.int i)) : XP X ρ (some e) (some i) := PO.imp (po_some h) fun σ H Q ⟨Bv, Bs, Hv, g, k⟩ => ⟨Bv, Bs, Hv, g, fun v H' Hv' g' x r => ⟨i, rp_v r, k H' Hv' g' x⟩⟩
theorem x_sliceS {z : Str} {lo hi : Option Expr} {i j : Option Int} {p2 : Pos} (ha : XE X ρ a (.str z)) (hl : XP X ρ lo i) (hh : XP X ρ hi j) (hz : z.length ≤ sizeLine) : XE X ρ (.Subscript a (.Slice lo hi none p2) pos) (.str (cutS z i j)) :=
  PE.imp (pe_slice sl_str ha hl hh) fun σ H Q ⟨Bv, Bs, Hv, g, k⟩ => ⟨Bv, Bs, Hv, g, fun v H1 Hv1 g1 e1 r1 => ⟨Bv, Bs, Hv1, g1, fun H2 Hv2 g2 e2 => ⟨Bv, Bs, Hv2, g2, fun H3 Hv3 g3 e3 =>
    ⟨z, rp_v r1, hz, k _ H3 Hv3 g3 ((e1.trans e2).trans e3) rp_v'⟩⟩⟩⟩
/-- name = [..] on one row -/
theorem x_setLc (B : Bx X P w K mg base k N nk) (S : Bs X W) (i j : Nat) {scope : Scope} {own : List (Str × Nat)} {ifs : List Expr} {elt it : Expr} {rs : List D} {spos : Pos} (ok : BlkOk X.N X.env.scope scope own) (hi : XI X ρ tg it ds) (hl : ds.length ≤ 100000)
    (h : LcD X scope (own.map (·.2)) tg ifs elt (wipeE ρ (own.map (·.2))) ds rs) (t : XB X W (ρ.set i (.own rs)) more o) (hN : N[i]? = some s := by rfl) (hj : nk[j]? = some (s, .local) := by rfl)
    (hl2 : (p'.line == pos.line) = true := by rfl) (ha : (scope.names.any fun (n, k) => n == s && (k == .local || k == .cell)) = false := by decide +kernel)
    (hs : ∀ x, foldedSetIterable it X.env x = pure x := by intro _; rfl) : XB X W ρ (.Assign [.Name s p'] (.ListComp elt [⟨tg, it, ifs, 0⟩] scope pos) spos :: more) o := by
  have hy : X.env.scope.names.lookup s = some .local := by
    obtain ⟨kd', h1, rfl | ⟨z, _⟩⟩ := B.hs j s _ hj
    · exact h1
    · cases z
  exact xb_cons (xs_setLc i B.calm B.nd (B.at_ hN) hy ok (sw_true S.kd hy hl2 ha) hi hl h hs) t
/-- targets that are tuples -/
theorem x_asg (h : XE X ρ e d) (hg : XG X ρ tg d ρ1) (t : XB X W ρ1 more o) (hs : swapsWithSole [tg] e pos.line X.env = pure false := by rfl) (hw : swappedStores [tg] e X.env = pure none := by rfl) (h1 : (assignEach [tg] X.env).map (·.2) = [assign tg X.env] := by rfl) : XB X W ρ (.Assign [tg] e pos :: more) o :=
  xb_cons (xs_asg h hg hs hw h1) t
end
/-! ### loops by what they do -/
section
variable {X : Cx} {W : WX} {c : Expr} {body : List Stmt}
end
end PL
namespace PL
open PySem PySem.Spec L2
open Evl (Ex)
theorem wkL_refl : ∀ (ρ : List E), WkL ρ ρ
  | [] => .nil
  | e :: ρ => .cons (.same e) (wkL_refl ρ)
theorem wkL_set : ∀ {ρ ρ' : List E} (v : Nat), WkL ρ ρ' → WkL ρ (ρ'.set v .no)
  | [], _, v, h => by
    cases h
    exact .nil
  | e :: ρ, _, v, h => by
    cases h with
    | cons a b => cases v with
      | zero => exact .cons (.no _) b
      | succ v => exact .cons a (wkL_set v b)
theorem wkL_wipe (ρ : List E) : ∀ (vs : List Nat), WkL ρ (wipeE ρ vs)
  | [] => wkL_refl ρ
  | v :: vs => wkL_set v (wkL_wipe ρ vs)
section
variable {X : Cx} {P : Program} {w : World} {K : PySem.W.Frag} {mg : Str → Option Value} {base : Heap} {k k' n : Nat} {N : List Str} {nk : List (Str × NameKind)} {W : WX}
variable {ρ ρ' ρ1 ρ2 : List E} {e a b c tg : Expr} {es : List Expr} {d f : D} {ds l m : List D} {pos p p' : Pos} {s : Str} {o o1 : Out} {kd : NameKind} {φ : List D → Ro} {body sts other more : List Stmt} {st : Stmt} {Bo : Bool}
/-- a for that leaves its temporaries (slots vs) untold -/
theorem x_forW (B : Bx X P w K mg base k N nk) (S : Bs X W) (vs : List Nat) {it : Expr} (hi : XI X ρ tg it ds) (h : FoD X W tg body ds (wipeE ρ vs) (.nx ρ1)) (t : XB X W ρ1 more o) (hs : ∀ x, foldedSetIterable it X.env x = pure x := by intro _; rfl) : XB X W ρ (.For tg it body [] pos :: more) o :=
  x_for B S hi (.wk (wkL_wipe ρ vs) h) t hs
/-- comprehensions over a list given by a map -/
theorem lc_of {α : Type} {scope : Scope} {vs : List Nat} {elt : Expr} {F G : α → D} : ∀ {as : List α}, (∀ x ∈ as, ∃ ρ1, Blk X scope (fun Y => XGw Y vs ρ tg (F x) ρ1) ∧ Blk X scope (fun Y => XE Y ρ1 elt (G x))) → LcD X scope vs tg [] elt ρ (as.map F) (as.map G)
  | [], _ => .nil
  | d :: as, h => by
    obtain ⟨ρ1, h1, h2⟩ := h d List.mem_cons_self
    exact .keep h1 (fun _ _ _ _ _ => xts_nil) h2 (lc_of fun x hx => h x (List.mem_cons_of_mem _ hx))
theorem lc_rg {scope : Scope} {vs : List Nat} {elt : Expr} {G : Nat → D} {lo : Int} {n : Nat} (h : ∀ i, i < n → ∃ ρ1, Blk X scope (fun Y => XGw Y vs ρ tg (.int (lo + (i : Nat))) ρ1) ∧ Blk X scope (fun Y => XE Y ρ1 elt (G i))) : LcD X scope vs tg [] elt ρ (rgD lo n) ((List.range n).map G) :=
  lc_of fun x hx => h x (List.mem_range.mp hx)
/-- comprehensions of whole numbers over a range -/
theorem lc_rgI {scope : Scope} {vs : List Nat} {elt : Expr} (G : Nat → Int) {lo : Int} {n : Nat} (h : ∀ i, i < n → ∃ ρ1, Blk X scope (fun Y => XGw Y vs ρ tg (.int (lo + (i : Nat))) ρ1) ∧ Blk X scope (fun Y => XE Y ρ1 elt (.int (G i)))) : LcD X scope vs tg [] elt ρ (rgD lo n) (((List.range n).map G).map D.int) := by
  rw [List.map_map]
  exact lc_rg h
end
end PL
namespace PL
open PySem PySem.Spec L2
open Evl (Ex)
section
variable {X : Cx} {P : Program} {w : World} {K : PySem.W.Frag} {mg : Str → Option Value} {base : Heap} {k k' n : Nat} {N : List Str} {nk : List (Str × NameKind)} {W : WX}
variable {ρ ρ' ρ1 ρ2 : List E} {e a b c tg : Expr} {es : List Expr} {d f : D} {ds l m : List D} {pos p p' : Pos} {s : Str} {o o1 : Out} {kd : NameKind} {φ : List D → Ro} {body sts other more : List Stmt} {st : Stmt} {Bo : Bool}
/-- list(xs) of a list -/
theorem x_listQ (B : Bx X P w K mg base k N nk) (j : Nat) (hm : mg "list" = none) (ha : XQ X ρ e l) (hj : nk[j]? = some (("list" : Str), NameKind.globalImplicit) := by rfl) (he : starEach (e :: []) X.env = (false, eval e X.env) :: starEach [] X.env := by rfl) (hpl : (backTo pos (starEach [] X.env)).any (·.1) = false := by rfl) : XO X ρ (.Call (.Name "list" p) [e] [] pos) l :=
  PE.imp (pe_callTy call_list_of (B.gl hj) (B.none hm) boot_list (pa_cons ha pa_nil he) (he := he) (hpl := hpl)) fun σ H Q ⟨Bv, Bs, Hv, g, k⟩ => ⟨Bv, Bs, Hv, g, fun q xs H1 Hv1 g1 e1 h3 h4 => by
    refine ⟨q, xs, rfl, .inl h3, fun r hr => ?_⟩
    exact k r _ _ _ (g1.newH hr) (e1.trans (Vx.newH g1.vx.vh hr)) (Evl.fresh_back g1.vx.hh hr) (Evl.fresh_back g1.vx.vh hr) upd_same h4 (g1.notOwn_new hr) (Evl.fresh_back e1.hh hr)⟩
/-- an if whose ways meet in one frame -/
theorem xb_ifm (h : XT X ρ c Bo) (h1 : Bo = true → XB X W ρ sts (.nx ρ1)) (h2 : Bo = false → XB X W ρ other (.nx ρ1)) (t : XB X W ρ1 more o) : XB X W ρ (.If c sts other pos :: more) o :=
  xb_ifj (fun _ : Unit => ρ1) (fun _ => True) h (fun q => ⟨(), trivial, h1 q⟩) (fun q => ⟨(), trivial, h2 q⟩) fun _ _ => t
/-! the same with the frame behind it told -/
theorem x_setE (B : Bx X P w K mg base k N nk) (S : Bs X W) (i j : Nat) (h : XE X ρ e d) (hρ : ρ.set i (.val d) = ρ1) (t : XB X W ρ1 more o) (hi : N[i]? = some s := by rfl) (hj : nk[j]? = some (s, kd) := by rfl) (hl : isLoc kd = true := by rfl)
    (hs : swapsWith e (some (.Name s p')) pos.line X.env = pure false := by rfl) : XB X W ρ (.Assign [.Name s p'] e pos :: more) o := by
  subst hρ
  exact x_set B S i j h t hi hj hl hs
theorem x_setOE (B : Bx X P w K mg base k N nk) (S : Bs X W) (i j : Nat) (h : XO X ρ e l) (hρ : ρ.set i (.own l) = ρ1) (t : XB X W ρ1 more o) (hi : N[i]? = some s := by rfl) (hj : nk[j]? = some (s, kd) := by rfl) (hl : isLoc kd = true := by rfl)
    (hs : swapsWith e (some (.Name s p')) pos.line X.env = pure false := by rfl) : XB X W ρ (.Assign [.Name s p'] e pos :: more) o := by
  subst hρ
  exact x_setO B S i j h t hi hj hl hs
theorem x_setLcE (B : Bx X P w K mg base k N nk) (S : Bs X W) (i j : Nat) {scope : Scope} {own : List (Str × Nat)} {ifs : List Expr} {elt it : Expr} {rs : List D} {spos : Pos} (ok : BlkOk X.N X.env.scope scope own) (hi : XI X ρ tg it ds) (hl : ds.length ≤ 100000) (hρ0 : wipeE ρ (own.map (·.2)) = ρ2)
    (h : LcD X scope (own.map (·.2)) tg ifs elt ρ2 ds rs) (hρ : ρ.set i (.own rs) = ρ1) (t : XB X W ρ1 more o) (hN : N[i]? = some s := by rfl) (hj : nk[j]? = some (s, .local) := by rfl)
    (hl2 : (p'.line == pos.line) = true := by rfl) (ha : (scope.names.any fun (n, k) => n == s && (k == .local || k == .cell)) = false := by decide +kernel)
    (hs : ∀ x, foldedSetIterable it X.env x = pure x := by intro _; rfl) : XB X W ρ (.Assign [.Name s p'] (.ListComp elt [⟨tg, it, ifs, 0⟩] scope pos) spos :: more) o := by
  subst hρ hρ0
  exact x_setLc B S i j ok hi hl h t hN hj hl2 ha hs
theorem x_forE (B : Bx X P w K mg base k N nk) (S : Bs X W) (vs : List Nat) {it : Expr} (hi : XI X ρ tg it ds) (hρ : wipeE ρ vs = ρ2) (h : FoD X W tg body ds ρ2 (.nx ρ1)) (t : XB X W ρ1 more o) (hs : ∀ x, foldedSetIterable it X.env x = pure x := by intro _; rfl) : XB X W ρ (.For tg it body [] pos :: more) o := by
  subst hρ
  exact x_forW B S vs hi h t hs
theorem xo_lcE (B : Bx X P w K mg base k N nk) {scope : Scope} {own : List (Str × Nat)} {ifs : List Expr} {elt it : Expr} {rs : List D} (ok : BlkOk X.N X.env.scope scope own) (hi : XI X ρ tg it ds) (hl : ds.length ≤ 100000) (hρ0 : wipeE ρ (own.map (·.2)) = ρ2)
    (h : LcD X scope (own.map (·.2)) tg ifs elt ρ2 ds rs) (hs : ∀ x, foldedSetIterable it X.env x = pure x := by intro _; rfl) : XO X ρ (.ListComp elt [⟨tg, it, ifs, 0⟩] scope pos) rs := by
  subst hρ0
  exact xo_lc B.calm B.nd ok hi hl h hs
theorem getD_map' (ns : List Int) (i : Nat) (z : Int) : (ns.map D.int).getD i (.int z) = .int (ns.getD i z) := by
  rw [List.getD_eq_getElem?_getD, List.getD_eq_getElem?_getD, List.getElem?_map]
  cases ns[i]? <;> rfl
end
end PL
/-! ranges of any size -/
namespace PL
open PySem PySem.Spec PyProof.Rows L2
open Evl (Ex)
section
variable {X : Cx} {tg : Expr}
end
section
variable {X : Cx} {P : Program} {w : World} {K : PySem.W.Frag} {mg : Str → Option Value} {base : Heap} {k k' n : Nat} {N : List Str} {nk : List (Str × NameKind)} {W : WX}
variable {ρ ρ' ρ1 ρ2 : List E} {e a b c tg : Expr} {es : List Expr} {d f : D} {ds l m : List D} {pos p p' : Pos}
end
end PL
/-! in, list(range), reverse, a list's item stored -/
namespace PL
open PySem PySem.Spec L2
open Evl (Ex)
section
variable {X : Cx} {P : Program} {w : World} {K : PySem.W.Frag} {mg : Str → Option Value} {base : Heap} {k k' n : Nat} {N : List Str} {nk : List (Str × NameKind)} {W : WX}
variable {ρ ρ' ρ1 ρ2 : List E} {e a b c tg : Expr} {es : List Expr} {d f : D} {ds l m : List D} {pos p p' : Pos} {s : Str} {o o1 : Out} {kd : NameKind} {φ : List D → Ro} {body sts other more : List Stmt} {st : Stmt} {Bo : Bool}
/-- xs[e] = v, xs a list of one's own -/
theorem x_stE {i : Int} {q : Nat} {ei : Expr} {p1 tpos : Pos} (B : Bx X P w K mg base k N nk) (u j : Nat) (hr : ρ[u]? = some (.own l)) (h : XE X ρ e d) (hi : XE X ρ ei (.int i)) (hq : ixN l.length i = some q) (hρ : ρ.set u (.own (l.set q d)) = ρ1) (t : XB X W ρ1 more o)
    (hu : N[u]? = some s := by rfl) (hj : nk[j]? = some (s, kd) := by rfl) (hv : isVis kd = true := by rfl) (hd : (s == ("__debug__" : Str)) = false := by decide +kernel) (hcd : (s == ("__classdict__" : Str)) = false := by decide +kernel)
    (ha : ∀ v, assign (.Subscript (.Name s p1) ei tpos) X.env v = (do
      let ov ← holding [v] (eval (.Name s p1) X.env)
      let iv ← holding [v, ov] (eval ei X.env)
      standAt tpos
      holding [v, ov, iv] (setItem ov iv v)
      release [v, ov, iv] []) := by intro _; rfl)
    (hs : swapsWithSole [.Subscript (.Name s p1) ei tpos] e pos.line X.env = pure false := by rfl) (hw : swappedStores [.Subscript (.Name s p1) ei tpos] e X.env = pure none := by rfl) (h1 : (assignEach [.Subscript (.Name s p1) ei tpos] X.env).map (·.2) = [assign (.Subscript (.Name s p1) ei tpos) X.env] := by rfl) :
    XB X W ρ (.Assign [.Subscript (.Name s p1) ei tpos] e pos :: more) o := by
  subst hρ
  refine xb_cons (PS.imp (ps_asg h (pg_sub (pe_var (i := u) (B.at_ hu) (B.vis hj hv) hd hcd) hi set_list ha) hs hw h1) fun D σ H ⟨Bv, Bs, Hv, g, k⟩ => ⟨Bv, Bs, Hv, g, fun v H1 Hv1 g1 e1 r1 => ?_⟩) t
  obtain ⟨q1, xs, z1, z2, z3, z4, z5⟩ := g1.own hr
  refine ⟨.ref q1, z1, Bv, Bs, Hv1, g1, fun v2 H2 Hv2 g2 e2 r2 => ?_⟩
  obtain ⟨q2, ys, y1, y2, y3, y4, y5⟩ := g2.own hr
  rw [z1] at y1
  cases y1
  refine ⟨q1, ys, i, q, rfl, rp_v r2, y4, by rw [rpL_len y5]; exact hq, ?_⟩
  exact k _ _ Hv2 (g2.upd hr z1 (rpL_set q y5 (rp_mono e2.vv r1)))
end
end PL
/-! exceptions: raise, try, what a suite asks of the caught one -/
namespace PL
open PySem PySem.Spec L2
open Evl (Ex)
abbrev veM : List Value := [.type "ValueError", .type "Exception", .type "BaseException", .type "object"]
structure ExCls (K : PySem.W.Frag) (mg : Str → Option Value) (x : Str) (C : Addr) : Prop where
  mg_ : mg x = some (.ref C)
  kp : PySem.W.keepIn K (.ref C) = true
  sub : PySem.W.subIn K (.ref C) (.type "BaseException") = some true
  ty : PySem.W.typeIn K (.ref C) = some (.type "type")
  hd : PySem.W.hasDictIn K C = true
  ga : PySem.W.findIn K (.ref C) "__getattribute__" = some (some (.builtin "BaseException.__getattribute__"))
  gg : PySem.W.findIn K (.ref C) "__getattr__" = some none
  ca : PySem.W.findIn K (.ref C) "__class__" = some (some (.builtin "object.__class__"))
  cn : PySem.W.specialIn K (.builtin "object.__class__") "__get__" = some (some (.builtin "getset_descriptor.__get__"))
  ct : PySem.W.takesIn K (.builtin "object.__class__") = some true
  mo : PySem.W.mroIn K C (.type "object") = some true
theorem exCls_mk {K : PySem.W.Frag} {h : Heap} {mg : Str → Option Value} {x : Str} {C : Addr} (X : K.In h) (G : h.Ns mainGlobals mg) (n : PySem.W.nsIn K mainGlobals x = some (some (.ref C))) (b1 : PySem.W.keepIn K (.ref C) = true) (b2 : PySem.W.subIn K (.ref C) (.type "BaseException") = some true) (b3 : PySem.W.typeIn K (.ref C) = some (.type "type")) (b4 : PySem.W.hasDictIn K C = true)
    (b5 : PySem.W.findIn K (.ref C) "__getattribute__" = some (some (.builtin "BaseException.__getattribute__"))) (b6 : PySem.W.findIn K (.ref C) "__getattr__" = some none) (b7 : PySem.W.findIn K (.ref C) "__class__" = some (some (.builtin "object.__class__"))) (b10 : PySem.W.mroIn K C (.type "object") = some true)
    (b8 : PySem.W.specialIn K (.builtin "object.__class__") "__get__" = some (some (.builtin "getset_descriptor.__get__"))) (b9 : PySem.W.takesIn K (.builtin "object.__class__") = some true) : ExCls K mg x C :=
  ⟨PySem.W.mg_of X G n, b1, b2, b3, b4, b5, b6, b7, b8, b9, b10⟩
/-- a slot gets what is no own list -/
theorem Sg.setAt {K : PySem.W.Frag} {Bv Bs Hv H : Hp} {ρ : List E} {σ : L2.St} (g : Sg K Bv Bs Hv H ρ σ) {i : Nat} {e : E} {o : Option V} (hn : isOwn e = false) (h : At K Bs Hv H e o) : Sg K Bv Bs Hv H (ρ.set i e) (σ.set i o) := by
  refine ⟨g.vx, by rw [List.length_set, List.length_set, g.len], fun j e' hj => ?_, fun j k l l' p h1 h2 h3 h4 => ?_⟩
  · by_cases hij : i = j
    · subst hij
      have hl : i < ρ.length := by
        have := (List.getElem?_eq_some_iff.mp hj).1
        rwa [List.length_set] at this
      rw [List.getElem?_set_self hl] at hj
      cases hj
      exact ⟨o, List.getElem?_set_self (by rw [g.len]; exact hl), h⟩
    · rw [List.getElem?_set_ne hij] at hj
      rw [List.getElem?_set_ne hij]
      exact g.at_ j e' hj
  · have n1 : ∀ {j : Nat} {l : List D}, (ρ.set i e)[j]? = some (.own l) → i ≠ j := fun {j l} h1 z => by
      subst z
      have hl : i < ρ.length := by
        have := (List.getElem?_eq_some_iff.mp h1).1
        rwa [List.length_set] at this
      rw [List.getElem?_set_self hl] at h1
      cases h1
      cases hn
    have m1 := n1 h1
    have m2 := n1 h2
    rw [List.getElem?_set_ne m1] at h1 h3
    rw [List.getElem?_set_ne m2] at h2 h4
    exact g.sep j k l l' p h1 h2 h3 h4
section
variable {X : Cx} {P : Program} {w : World} {K : PySem.W.Frag} {mg : Str → Option Value} {base : Heap} {k k' n : Nat} {N : List Str} {nk : List (Str × NameKind)} {W : WX}
variable {ρ ρ' ρ1 ρ2 : List E} {e a b c tg : Expr} {es : List Expr} {d f : D} {ds l m : List D} {pos p p' : Pos} {s : Str} {o o1 : Out} {kd : NameKind} {φ : List D → Ro} {body sts other more : List Stmt} {st : Stmt} {Bo : Bool} {C F : Addr}
theorem ExCls.raises (T : ExCls K mg s C) (hK : X.K = K) : Raises X (.ref C) := raises_own (by rw [hK]; exact T.sub) (by rw [hK]; exact T.ty)
/-- raise X('text') -/
theorem x_raise {t : Str} {jj : Nat} {p2 p3 : Pos} (B : Bx X P w K mg base k N nk) (S : Bs X W) (T : ExCls K mg s C) (q : PySem.W.excIn K C veM "ValueError.__new__" = true) (j : Nat) (hj : nk[j]? = some (s, .globalImplicit) := by rfl) (hd : (s == ("__debug__" : Str)) = false := by decide +kernel) :
    XB X W ρ (.Raise (some (.Call (.Name s p) [.Constant (.str t) jj p2] [] p3)) none pos :: more) (.exc C [] [] ρ) := by
  refine xb_stop (PS.imp (L2N.ps_raise B.calm S.tk (L2N.pmk_own PySem.F.excBase_ValueError (by rw [B.hK]; exact q) (by rw [B.hm]; exact T.mg_) (by rw [B.hK]; exact T.kp) (T.raises B.hK) (B.gl hj) hd)) fun D σ H ⟨Bv, Bs, Hv, g, k⟩ => ?_) trivial
  exact k none σ H Hv g (.inl ⟨rfl, rfl, rfl⟩)
theorem x_exprX {ns : List Str} {xs : List D} (h : XX X W ρ e C ns xs) (hs : swapsWith e none pos.line X.env = pure false := by rfl) : XB X W ρ (.Expr e pos :: more) (.exc C ns xs ρ) := xb_stop (xs_exprX h hs) trivial
theorem x_retX {ns : List Str} {xs : List D} (h : XX X W ρ e C ns xs) : XB X W ρ (.Return (some e) pos :: more) (.exc C ns xs ρ) := xb_stop (xs_retX h) trivial
theorem x_setX {ns : List Str} {xs : List D} (B : Bx X P w K mg base k N nk) (S : Bs X W) (i j : Nat) (h : XX X W ρ e C ns xs) (hi : N[i]? = some s := by rfl) (hj : nk[j]? = some (s, kd) := by rfl) (hl : isLoc kd = true := by rfl)
    (hs : swapsWith e (some (.Name s p')) pos.line X.env = pure false := by rfl) : XB X W ρ (.Assign [.Name s p'] e pos :: more) (.exc C ns xs ρ) := xb_stop (xs_setX B.nd (B.at_ hi) (B.loc hj hl) (S.fn _) h hs) trivial

/-! ### try -/
theorem takesN_of {X : Cx} {W : WX} (t : L2.Takes X W) : L2N.Takes X W := fun u s' x => by
  obtain ⟨a, B, sI, pins, σ, H, cls, d, rfl, I, nb, up, sky, na, os, ag, w⟩ := x
  refine t _ _ ⟨a, B, sI, pins, σ, H, cls, d, rfl, I, nb, up, ?_, na, os, ag, w⟩
  rcases sky with ⟨hB, hn, hl, oe, vs, he, hz, hd, h1⟩ | fl | hd
  · exact .inl ⟨hB, hn, hl, oe, vs, he, hz.zc, hd, h1⟩
  · exact .inr (.inl (L2H.flyingZ_imp (fun o z => z.zc) fl))
  · exact .inr (.inr ⟨hd.1, hd.2.1, hd.2.2.1, L2H.tracedZ_imp (fun o z => z.zc) hd.2.2.2⟩)
def W0 : WX := fun _ _ _ _ => False
theorem takesW0 {X : Cx} : L2.Takes X W0 := takes0
def noExc : Out → Prop
  | .exc _ _ _ _ => False
  | _ => True
theorem Bx.tr (B : Bx X P w K mg base k N nk) (pn : List (Addr × Obj)) (xe : Value → Shared → Prop) : Bx (X.tr pn xe) P w K mg base k N nk := ⟨B.hP, B.hw, B.hK, B.hm, B.hb, B.room, B.calm, B.hN, B.hs, B.nd⟩
theorem Bs.tr {W' : WX} (S : Bs X W) {pn : List (Addr × Obj)} {xe : Value → Shared → Prop} (tk : L2N.Takes (X.tr pn xe) W') (po : PassesOwn (model X.prog X.w) X.A X.env xe) : Bs (X.tr pn xe) W' := ⟨po, tk, S.fn, S.kd, S.st, S.fr⟩
theorem Fin.noX {K : PySem.W.Frag} {W W' : WX} {Bv Bs : Hp} {D : Ends} {o : Out} (h : Fin K W Bv Bs D o) (q : noExc o) : Fin K W' Bv Bs D o := by
  cases o with
  | exc => exact q.elim
  | _ => exact h
/-- a try whose body raises nothing: what its clause holds is never looked at -/
theorem xs_tryOk {x : Str} {np pos' : Pos} {b₀ : Stmt} {suite : List Stmt} (B : Bx X P w K mg base k N nk) (S : Bs X W) (T : ExCls K mg x F) (j : Nat)
    (hb : ∀ (Y : Cx) (W' : WX), Bx Y P w K mg base k N nk → Bs Y W' → Y.env = X.env → XB Y W' ρ body o) (q : noExc o) (hj : nk[j]? = some (x, .globalImplicit) := by rfl) (hd : (x == ("__debug__" : Str)) = false := by decide +kernel) :
    XS X W ρ (.Try body [.ExceptHandler (some (.Name x np)) none (b₀ :: suite) pos'] [] [] pos) o :=
  PS.imp (ps_try_only (tb := fun W' => tS X.K W' ρ o) (ts := fun _ _ _ => tNever) S.st S.fr (c := .ref F) ⟨B.gl hj, hd, .inl (by rw [B.hm]; exact T.mg_)⟩ (takesW0)
    (fun W' pn xe tk po => hb _ W' (B.tr pn xe) (S.tr (takesN_of tk) po) rfl) fun _ _ _ _ _ _ _ => pss_never) fun D σ H ⟨Bv, Bs, Hv, g, k⟩ => ⟨Bv, Bs, Hv, g, k.noX q⟩
/-- what stands around an except suite -/
structure Hx (Y X : Cx) (K : PySem.W.Frag) (mg : Str → Option Value) (N : List Str) (nk : List (Str × NameKind)) (C a : Addr) (od : Option Addr) : Prop where
  hY : ∃ oe pn, Y = X.suite a ((a, oe) :: pn) ∧ Zc (.ref C) od oe ∧ ∃ vs, oe.data = .fields vs
  hK : Y.K = K
  hm : Y.mg = mg
  hN : Y.N = N
  hs : ∀ (j : Nat) (s : Str) (kd : NameKind), nk[j]? = some (s, kd) → ∃ kd', Y.env.scope.names.lookup s = some kd' ∧ (kd' = kd ∨ (kd = .free ∧ kd' = .cell))
  nd : Y.N.Nodup
/-- what the try makes of its suite's outcome: the name goes -/
def outAs (i : Nat) : Out → Out
  | .nx ρ => .nx (ρ.set i .no)
  | .bk ρ => .bk (ρ.set i .no)
  | .ct ρ => .ct (ρ.set i .no)
  | o => o
theorem Fin.suiteAs {K : PySem.W.Frag} {Bv Bs : Hp} {D : Ends} (i : Nat) (h : Fin K W Bv Bs D (outAs i o)) (q : noExc o) : Fin K W0 Bv Bs { nx := fun σ' H' => D.nx (σ'.set i none) H', rt := D.rt, bk := fun σ' H' => D.bk (σ'.set i none) H', ct := fun σ' H' => D.ct (σ'.set i none) H' } o := by
  cases o with
  | exc => exact q.elim
  | nx ρ => exact fun σ H Hv g => h _ H Hv (g.no i)
  | bk ρ => exact fun σ H Hv g => h _ H Hv (g.no i)
  | ct ρ => exact fun σ H Hv g => h _ H Hv (g.no i)
  | ret d => exact h
  | retO l => exact h
  | retP a b => exact h
/-! ### in a suite -/
theorem Hx.vis {Y : Cx} {a : Addr} {od : Option Addr} (B : Hx Y X K mg N nk C a od) {j : Nat} (hj : nk[j]? = some (s, kd)) (h : isVis kd = true) : Vis Y.env.scope s := by
  obtain ⟨kd', h1, rfl | ⟨rfl, rfl⟩⟩ := B.hs j s kd hj
  · cases kd' with
    | «local» => exact .inl h1
    | cell => exact .inr (.inl h1)
    | free => exact .inr (.inr h1)
    | _ => cases h
  · exact .inr (.inl h1)
theorem Hx.gl {Y : Cx} {a : Addr} {od : Option Addr} (B : Hx Y X K mg N nk C a od) {j : Nat} (hj : nk[j]? = some (s, .globalImplicit)) : Gl Y s := by
  obtain ⟨kd', h1, rfl | ⟨z, _⟩⟩ := B.hs j s _ hj
  · exact h1
  · cases z
theorem Hx.at_ {Y : Cx} {a : Addr} {od : Option Addr} (B : Hx Y X K mg N nk C a od) {i : Nat} (h : N[i]? = some s) : Y.N[i]? = some s := by
  rw [B.hN]
  exact h
theorem Hx.none {Y : Cx} {a : Addr} {od : Option Addr} (B : Hx Y X K mg N nk C a od) (h : mg s = none) : Y.mg s = none := by
  rw [B.hm]
  exact h
/-- the dict of the caught one stands -/
def DctAt (H : Hp) (od : Option Addr) : Prop := od = none ∨ ∃ dd fs, od = some dd ∧ H dd = some (.xd fs)
theorem ExAt.dct {Hv H : Hp} {ns : List Str} {xs : List D} {od : Option Addr} (h : ExAt K Hv ns xs od) (e : Ex Hv H) : DctAt H od := by
  rcases h with ⟨_, _, h⟩ | ⟨dd, ys, h1, h2, _, _⟩
  · exact .inl h
  · exact .inr ⟨dd, _, h1, e _ _ h2⟩
theorem instAt_suite {a D : Addr} {od : Option Addr} {oe : Obj} {pn pins : List (Addr × Obj)} {σ : L2.St} {H : Hp} {sh : Shared} (I : Inv (X.suite a ((a, oe) :: pn)) pins σ H sh) (hz : Zc (.ref D) od oe) (hf : ∃ vs, oe.data = .fields vs) (hd : DctAt H od) : ∃ q, PySem.W.InstAt sh.heap a oe D q := by
  obtain ⟨hget, _⟩ := I.pin (a, oe) (List.mem_append.mpr (.inl List.mem_cons_self))
  obtain ⟨vs, hv⟩ := hf
  rcases hd with rfl | ⟨dd, fs, rfl, hH⟩
  · obtain ⟨oc, odc, oda, osl⟩ := oe
    obtain ⟨h1, h2⟩ := hz
    dsimp only at h1 h2 hv
    subst h1 h2 hv
    exact ⟨none, hget, rfl, rfl, trivial⟩
  · have hx : ObjOk X.prog X.w H sh.heap dd (.xd fs) := I.hok dd _ hH
    obtain ⟨mA, hns, hr⟩ := hx
    obtain ⟨ob, ho, hl⟩ := lookIn_ns hns
    exact ⟨some ob, hget, hz.1, by unfold PySem.W.notCls; rw [hv] <;> rfl, by rw [hz.2]; exact ho⟩
/-- isinstance(e, c), e the caught one; c one class, or a tuple of them -/
def rIsX (K : PySem.W.Frag) (D a : Addr) (d : Option Addr) : List V → Hp → VK → Prop := fun xs H Q => ∃ (c : V) (cv : Value) (r : Bool), xs = [.ref a, c] ∧ ClsV c cv ∧ PySem.W.kitOne K (.ref D) cv = some r ∧ DctAt H d ∧ Q (.bl r) H
theorem call_isX {a D : Addr} {od : Option Addr} {oe : Obj} {pn : List (Addr × Obj)} (T : ExCls X.K mg s D) (hz : Zc (.ref D) od oe) (hf : ∃ vs, oe.data = .fields vs) : CallR (X.suite a ((a, oe) :: pn)) (.builtin "isinstance") (rIsX X.K D a od) := by
  intro pins sh σ H xs us Q I r h
  obtain ⟨c, cv, b, rfl, hcv, e, hd, q⟩ := h
  cases r with
  | cons rx rr =>
    cases rr with
    | cons rt rr =>
      cases rr
      cases rx
      have ec := hcv.eq rt
      subst ec
      obtain ⟨q1, J⟩ := instAt_suite I hz hf hd
      exact PySem.W.kia_one (PySem.W.kitx_exc (by obtain ⟨cd, hc, _⟩ := PySem.W.any_some T.hd; rw [hc]; rfl) T.ga T.gg T.sub T.ca T.cn T.ct T.mo) I.kIn J e (fun z => nomatch z) fun tk => ⟨.bl b, H, I.kept (t' := tk) fun _ _ z => z, rfl, q⟩
def rIsXT (K : PySem.W.Frag) (D a : Addr) (d : Option Addr) : List V → Hp → VK → Prop := fun xs H Q => ∃ (tp : Addr) (cs : List V) (us : List Value) (r : Bool), xs = [.ref a, .ref tp] ∧ SqT K H tp cs ∧ Paired ClsV cs us ∧ PySem.W.kitAny K (.ref D) us = some r ∧ DctAt H d ∧ Q (.bl r) H
theorem call_isXT {a D : Addr} {od : Option Addr} {oe : Obj} {pn : List (Addr × Obj)} (T : ExCls X.K mg s D) (hz : Zc (.ref D) od oe) (hf : ∃ vs, oe.data = .fields vs) : CallR (X.suite a ((a, oe) :: pn)) (.builtin "isinstance") (rIsXT X.K D a od) := by
  intro pins sh σ H xs us Q I r h
  obtain ⟨tp, cs, ws, b, rfl, hT, kk, e, hd, q⟩ := h
  cases r with
  | cons rx rr =>
    cases rr with
    | cons rt rr =>
      cases rr
      cases rx
      cases rt
      obtain ⟨q1, J⟩ := instAt_suite I hz hf hd
      obtain ⟨its, rv, pl, _⟩ := I.tuple hT
      have e3 := ClsV.all kk rv
      subst e3
      obtain ⟨ob, h1, h2, n, h3⟩ := pl
      obtain ⟨oc, ocd, dt, sl⟩ := ob
      simp only at h2 h3
      subst h2 h3
      exact PySem.W.kia_tup (PySem.W.kitx_exc (by obtain ⟨cd, hc, _⟩ := PySem.W.any_some T.hd; rw [hc]; rfl) T.ga T.gg T.sub T.ca T.cn T.ct T.mo) I.kIn J h1 e (fun z => nomatch z) fun tk => ⟨.bl b, H, I.kept (t' := tk) fun _ _ z => z, rfl, q⟩
theorem h_cls {Y : Cx} {a : Addr} {od : Option Addr} (B : Hx Y X K mg N nk C a od) (j : Nat) (T : mg s = some (.ref F)) (hj : nk[j]? = some (s, .globalImplicit) := by rfl) (hd : (s == ("__debug__" : Str)) = false := by decide +kernel) : XE Y ρ (.Name s pos) (.v (.ref F)) :=
  xe_glob (B.gl hj) (by rw [B.hm]; exact T) rfl hd
theorem h_bcl {Y : Cx} {a : Addr} {od : Option Addr} {id : String} (B : Hx Y X K mg N nk C a od) (j : Nat) (hm : mg s = none) (hv : bootBuiltins s = some (.type id)) (hj : nk[j]? = some (s, .globalImplicit) := by rfl) (hn : s ≠ "__name__" := by decide +kernel) (hd : (s == ("__debug__" : Str)) = false := by decide +kernel) : XE Y ρ (.Name s pos) (.v (.ty id)) :=
  xe_of (pe_bltn (B.gl hj) (B.none hm) hv (show RelV (.ty id) (.type id) from rfl) hn hd) fun _ _ _ q => q
/-- the caught one, handed to isinstance with one class -/
theorem h_is {Y : Cx} {a : Addr} {od : Option Addr} {ns : List Str} {xs : List D} {y : Str} {ce : Expr} {py : Pos} {cv : V} {u : Value} {x : Str} (B : Hx Y X K mg N nk C a od) (T : ExCls K mg x C) (i j j2 : Nat) (hm : mg "isinstance" = none) (hc : XE Y ρ ce (.v cv)) (hcl : ClsV cv u) (hr : PySem.W.kitOne K (.ref C) u = some Bo)
    (hρ : ρ[i]? = some (.exc a od ns xs) := by rfl) (hi : N[i]? = some y := by rfl) (hj2 : nk[j2]? = some (y, kd) := by rfl) (hv : isVis kd = true := by rfl) (hj : nk[j]? = some (("isinstance" : Str), NameKind.globalImplicit) := by rfl) (hd : (y == ("__debug__" : Str)) = false := by decide +kernel) (hcd : (y == ("__classdict__" : Str)) = false := by decide +kernel)
    (he : starEach [.Name y py, ce] Y.env = (false, eval (.Name y py) Y.env) :: starEach [ce] Y.env := by rfl) (he2 : starEach [ce] Y.env = (false, eval ce Y.env) :: starEach [] Y.env := by rfl) (hpl : (backTo pos (starEach [ce] Y.env)).any (·.1) = false := by rfl) :
    XE Y ρ (.Call (.Name "isinstance" p) [.Name y py, ce] [] pos) (.bl Bo) := by
  obtain ⟨oe, pn, rfl, hz, hf⟩ := B.hY
  have hK : X.K = K := B.hK
  subst hK
  refine PE.imp (pe_callB (call_isX T hz hf) (B.gl hj) (B.none hm) PyProof.Rows.boot_isinstance (pa_cons (pe_var (i := i) (B.at_ hi) (B.vis hj2 hv) hd hcd) (pa_cons hc pa_nil he2) he) (he := he) (hpl := hpl)) fun σ H Q ⟨Bv, Bs, Hv, g, kk⟩ => ?_
  obtain ⟨o', h1, h2, h3⟩ := g.at_ i _ hρ
  subst h2
  refine ⟨.ref a, h1, Bv, Bs, Hv, g, fun v H1 Hv1 g1 e1 r1 => ?_⟩
  rw [rp_v r1]
  exact ⟨cv, u, Bo, rfl, hcl, hr, (h3.mono e1.vv).dct g1.vx.vh, kk _ H1 Hv1 g1 e1 rp_v'⟩
/-- .. with a tuple of classes -/
theorem h_isT {Y : Cx} {a : Addr} {od : Option Addr} {ns : List Str} {xs : List D} {y : Str} {ce : Expr} {py : Pos} {cvs : List V} {us : List Value} {x : Str} (B : Hx Y X K mg N nk C a od) (T : ExCls K mg x C) (i j j2 : Nat) (hm : mg "isinstance" = none) (hc : XE Y ρ ce (.tup ds)) (hcl : Paired ClsV cvs us) (hr : PySem.W.kitAny K (.ref C) us = some Bo) (hds : ds = cvs.map D.v := by rfl)
    (hρ : ρ[i]? = some (.exc a od ns xs) := by rfl) (hi : N[i]? = some y := by rfl) (hj2 : nk[j2]? = some (y, kd) := by rfl) (hv : isVis kd = true := by rfl) (hj : nk[j]? = some (("isinstance" : Str), NameKind.globalImplicit) := by rfl) (hd : (y == ("__debug__" : Str)) = false := by decide +kernel) (hcd : (y == ("__classdict__" : Str)) = false := by decide +kernel)
    (he : starEach [.Name y py, ce] Y.env = (false, eval (.Name y py) Y.env) :: starEach [ce] Y.env := by rfl) (he2 : starEach [ce] Y.env = (false, eval ce Y.env) :: starEach [] Y.env := by rfl) (hpl : (backTo pos (starEach [ce] Y.env)).any (·.1) = false := by rfl) :
    XE Y ρ (.Call (.Name "isinstance" p) [.Name y py, ce] [] pos) (.bl Bo) := by
  subst hds
  obtain ⟨oe, pn, rfl, hz, hf⟩ := B.hY
  have hK : X.K = K := B.hK
  subst hK
  refine PE.imp (pe_callB (call_isXT T hz hf) (B.gl hj) (B.none hm) PyProof.Rows.boot_isinstance (pa_cons (pe_var (i := i) (B.at_ hi) (B.vis hj2 hv) hd hcd) (pa_cons hc pa_nil he2) he) (he := he) (hpl := hpl)) fun σ H Q ⟨Bv, Bs, Hv, g, kk⟩ => ?_
  obtain ⟨o', h1, h2, h3⟩ := g.at_ i _ hρ
  subst h2
  refine ⟨.ref a, h1, Bv, Bs, Hv, g, fun v H1 Hv1 g1 e1 r1 => ?_⟩
  obtain ⟨tp, zs, rfl, q1, q2⟩ := rp_tup r1
  have := rpL_vs q2
  subst this
  exact ⟨tp, _, us, Bo, rfl, Evl.ex_t g1.vx.vh q1, hcl, hr, (h3.mono e1.vv).dct g1.vx.vh, kk _ H1 Hv1 g1 e1 rp_v'⟩
/-- {} -/
theorem xe_dct0 : XE X ρ (.Dict [] [] pos) (.dct [] []) :=
  PE.imp pe_dnewK fun σ H Q ⟨Bv, Bs, Hv, g, k⟩ => fun q hq => by
    refine k _ _ _ (g.newV hq) (Vx.newV g.vx.vh hq) ?_
    unfold Rp
    exact ⟨q, [], rfl, upd_same, rfl, rpL_nil⟩
/-- things that is_whole may be asked of -/
def plainD : D → Bool
  | .v .non => true
  | .v (.bl _) => true
  | .v (.int _) => true
  | .v (.str _) => true
  | .lst _ => true
  | .tup _ => true
  | .dct _ _ => true
  | _ => false
/-- range(i, j, c) upwards -/
theorem rs_pos {i j c : Int} (hc : 0 < c) : 0 ≤ Builtin.Range.rangeSize i j c ∧ (Builtin.Range.rangeSize i j c = 0 ∨ Builtin.Range.rangeSize i j c ≤ j - i) ∧ ∀ k : Int, 0 ≤ k → k < Builtin.Range.rangeSize i j c → i + k * c < j := by
  unfold Builtin.Range.rangeSize
  rw [if_pos hc]
  by_cases h : i < j
  · rw [if_pos h]
    have h1 : 0 ≤ (j - i - 1) / c := Int.ediv_nonneg (by omega) (by omega)
    have h2 : (j - i - 1) / c ≤ j - i - 1 := Int.ediv_le_self _ (by omega)
    have h3 : (j - i - 1) / c * c ≤ j - i - 1 := Int.ediv_mul_le _ (by omega)
    refine ⟨by omega, .inr (by omega), fun k h4 h5 => ?_⟩
    have h6 : k * c ≤ (j - i - 1) / c * c := Int.mul_le_mul_of_nonneg_right (by omega) (by omega)
    omega
  · rw [if_neg h]
    exact ⟨Int.le_refl _, .inl rfl, fun k h4 h5 => by omega⟩
theorem small_pos {i j c : Int} (hi : -(2 ^ 60) ≤ i ∧ i ≤ 2 ^ 60) (hj : -(2 ^ 60) ≤ j ∧ j ≤ 2 ^ 60) (hc : 0 < c ∧ c < 1000000) : Builtin.Range.small i j c = true := by
  obtain ⟨h1, h2, _⟩ := rs_pos (i := i) (j := j) hc.1
  unfold Builtin.Range.small
  generalize Builtin.Range.rangeSize i j c = r at h1 h2
  simp only [Builtin.Range.rangeFitsLong, Bool.and_eq_true, Bool.or_eq_true, decide_eq_true_eq, beq_iff_eq, show c > 0 from hc.1, if_true]
  omega
theorem x_range3 {i j m : Int} (B : Bx X P w K mg base k N nk) (q : Nat) (hm : mg "range" = none) (ha : XE X ρ a (.int i)) (hb : XE X ρ b (.int j)) (hc : XE X ρ c (.int m)) (hr : (-(2 ^ 60) ≤ i ∧ i ≤ 2 ^ 60) ∧ (-(2 ^ 60) ≤ j ∧ j ≤ 2 ^ 60) ∧ 0 < m ∧ m < 1000000) (hn : nk[q]? = some (("range" : Str), NameKind.globalImplicit) := by rfl)
    (hs : starEach [a, b, c] X.env = (false, eval a X.env) :: starEach [b, c] X.env := by rfl) (hs2 : starEach [b, c] X.env = (false, eval b X.env) :: starEach [c] X.env := by rfl) (hs3 : starEach [c] X.env = (false, eval c X.env) :: starEach [] X.env := by rfl) (hpl : (backTo pos (starEach [b, c] X.env)).any (·.1) = false := by rfl) :
    XI X ρ tg (.Call (.Name "range" p) [a, b, c] [] pos) (rcD i m (Builtin.Range.rangeSize i j m).toNat) :=
  xi_range3 (B.gl hn) (B.none hm) (xa_cons ha (xa_cons hb (xa_cons hc xa_nil hs3) hs2) hs) ⟨by omega, by omega, small_pos hr.1 hr.2.1 hr.2.2, by have := (rs_pos (i := i) (j := j) hr.2.2.1).1; omega⟩ hs hpl
theorem mem_rc {i j m : Int} {d : D} (hm : 0 < m) (h : d ∈ rcD i m (Builtin.Range.rangeSize i j m).toNat) : ∃ q : Nat, d = .int (i + q * m) ∧ i + q * m < j := by
  unfold rcD at h
  obtain ⟨q, hq, rfl⟩ := List.mem_map.mp h
  obtain ⟨h1, _, h3⟩ := rs_pos (i := i) (j := j) hm
  exact ⟨q, rfl, h3 q (by omega) (by have := List.mem_range.mp hq; omega)⟩
end
end PL
/-! objects: made, asked for their fields, their methods called -/
namespace PL
open PySem PySem.Spec L2
open Evl (Ex)
section
variable {K : PySem.W.Frag} {Bv Bs Hv H : Hp} {ρ : List E} {σ : L2.St}
end
/-- what a __init__ gives -/
inductive RoI where
  | flds (ns : List Str) (l : List D)
  | exc (C : Addr) (ns : List Str) (ds : List D)
  | bad
/-- the heap without p -/
def wo (H : Hp) (p : Addr) : Hp := fun a => if a = p then none else H a
def FinI (K : PySem.W.Frag) (C p : Addr) (Hv H : Hp) (Q : VK) (E : XK) : RoI → Prop
  | .flds ns l => ∀ H' Hv' dx xs, Vx Hv (wo H p) Hv' H' → Hv' p = none → H' p = some (.ins C dx (ns.zip xs)) → ns.length = xs.length → RpL K Hv' l xs → Q .non H'
  | .exc C' ns ds => ∀ od H' Hv', Vx Hv (wo H p) Hv' H' → ExAt K Hv' ns ds od → E (.ref C') od H'
  | .bad => False
def spI (K : PySem.W.Frag) (C : Addr) (n : Nat) (φ : List D → RoI) : Sp := fun vs H Q E => ∃ p us dx Hv ds, vs = .ref p :: us ∧ H p = some (.ins C dx []) ∧ Hv p = none ∧ Ex Hv (wo H p) ∧ RpL K Hv ds us ∧ ds.length = n ∧ FinI K C p Hv H Q E (φ ds)
inductive LeadsI (p C : Addr) : Out → RoI → Prop where
  | nx (ρ : List E) (ns : List Str) (l : List D) : ρ[0]? = some (.slf p C ns l) → LeadsI p C (.nx ρ) (.flds ns l)
  | exc (C' : Addr) (ns : List Str) (ds : List D) (ρ : List E) : LeadsI p C (.exc C' ns ds ρ) (.exc C' ns ds)
section
variable {P : Program} {w : World} {K : PySem.W.Frag} {mg : Str → Option Value} {base : Heap}
/-- a class of the text -/
structure ObC (K : PySem.W.Frag) (mg : Str → Option Value) (x : Str) (C : Addr) (ns : List Str) : Prop where
  mg_ : mg x = some (.ref C)
  cl : Cls K C
  na : ∀ f ∈ ns, NoAttr K C f
structure MkC (P : Program) (w : World) (K : PySem.W.Frag) (mg : Str → Option Value) (base : Heap) (C : Addr) (k n : Nat) (dvs : List V) (φ : List D → RoI) : Prop where
  ex : ∃ f fd ps us, Mk K C f ∧ FnOk P w K mg base (L2N.CX P w) k f fd ps (spI K C n φ) ∧ Binds K fd ps us ∧ Vals dvs us
structure MtC (P : Program) (w : World) (K : PySem.W.Frag) (mg : Str → Option Value) (base : Heap) (C : Addr) (m : Str) (k n : Nat) (φ : List D → Ro) : Prop where
  ex : ∃ f fd ps, Meth K C m f ∧ FnOk P w K mg base (L2N.CX P w) k f fd ps (spD K n φ) ∧ Binds K fd ps []
end
section
variable {X : Cx} {P : Program} {w : World} {K : PySem.W.Frag} {mg : Str → Option Value} {base : Heap} {k k' n : Nat} {N : List Str} {nk : List (Str × NameKind)} {W : WX}
variable {ρ ρ' ρ1 ρ2 : List E} {e a b c tg ob : Expr} {es : List Expr} {d f : D} {ds l m : List D} {pos p p' : Pos} {s : Str} {o o1 : Out} {kd : NameKind} {φ : List D → Ro} {body sts other more : List Stmt} {st : Stmt} {Bo : Bool} {C : Addr} {ns : List Str}
/-- .. of a class that has no __init__ of its own -/
structure Mk0 (K : PySem.W.Frag) (C : Addr) : Prop where
  makes : PySem.W.makesIn K C = true
  init : PySem.W.findIn K (.ref C) "__init__" = some (some (.builtin "object.__init__"))
  kp : PySem.W.keepIn K (.ref C) = true
  top : PySem.W.mroIn K C (.type "object") = some true
end
/-! ### a __init__ with defaults -/
section
variable {P : Program} {w : World} {K : PySem.W.Frag} {mg : Str → Option Value} {base : Heap}
end
end PL
/-! texts, each told by the list of its signs -/
namespace PL
open PySem PySem.Spec L2 PyProof.Rows
open Evl (Ex)
/-- the text of a list of signs -/
abbrev tx (l : List Nat) : Str := ⟨l.toArray⟩
abbrev D.tx (l : List Nat) : D := .str (PL.tx l)
theorem gl_tx {K : PySem.W.Frag} {h : Heap} {mg : Str → Option Value} {s z : Str} {l : List Nat} {t : Tok} (e : z = tx l) (X : K.In h) (G : h.Ns mainGlobals mg) (a : PySem.W.nsIn K mainGlobals s = some (some (.str z t))) : GlD K mg s (.tx l) := by
  subst e
  exact gl_str X G a
theorem ofTx (z : Str) : z = tx z.cps.toList := (SX.S_tl z).symm
/-- a whole number's signs -/
def intL (i : Int) : List Nat := if i < 0 then 45 :: TL.numL (-i).toNat else TL.numL i.toNat
theorem str_intL (i : Int) : ((toString i : String) : Str) = tx (intL i) := by
  unfold intL
  by_cases h : i < 0
  · rw [if_pos h]
    obtain ⟨n, rfl⟩ : ∃ n : Nat, i = Int.negSucc n := ⟨(-i - 1).toNat, by omega⟩
    refine TL.ext_tl ?_
    have e : (toString (Int.negSucc n) : String) = "-" ++ toString ((((n + 1 : Nat) : Nat) : Int)) := rfl
    show TL.tl (Str.ofString (toString (Int.negSucc n))) = _
    rw [e, show TL.tl (Str.ofString ("-" ++ toString (((n + 1 : Nat) : Nat) : Int))) = 45 :: TL.tl (Str.ofString (toString (((n + 1 : Nat) : Nat) : Int))) by
      rw [TL.tl_ofString, TL.tl_ofString, String.toList_append]
      rfl, TL.tl_num]
    show _ = 45 :: TL.numL (-(Int.negSucc n)).toNat
    rw [show (-(Int.negSucc n)).toNat = n + 1 by omega]
  · rw [if_neg h]
    obtain ⟨n, rfl⟩ : ∃ n : Nat, i = n := ⟨i.toNat, by omega⟩
    rw [Int.toNat_natCast]
    exact TL.ext_tl (TL.tl_num n)
theorem tx_len (l : List Nat) : (tx l).length = l.length := SX.S_len l
theorem tx_eq {a b : List Nat} : (tx a = tx b) ↔ a = b := ⟨SX.S_inj, fun h => by rw [h]⟩
def cutL (l : List Nat) (lo hi : Option Int) : List Nat := (l.drop (HT.sIx l.length 0 lo)).take (HT.sIx l.length l.length hi - HT.sIx l.length 0 lo)
theorem cutS_tx (l : List Nat) (lo hi : Option Int) : cutS (tx l) lo hi = tx (cutL l lo hi) := by
  unfold cutS cutL
  rw [tx_len]
/-- lists of texts -/
def txs (ys : List (List Nat)) : List D := ys.map D.tx
section
variable {X : Cx} {P : Program} {w : World} {K : PySem.W.Frag} {mg : Str → Option Value} {base : Heap} {k k' n : Nat} {N : List Str} {nk : List (Str × NameKind)} {W : WX}
variable {ρ ρ' ρ1 ρ2 : List E} {e a b c tg : Expr} {es : List Expr} {d f : D} {ds l m : List D} {pos p p' : Pos} {s : Str} {o o1 : Out} {kd : NameKind} {φ : List D → Ro} {body sts other more : List Stmt} {st : Stmt} {Bo : Bool} {t u : List Nat}
theorem x_lit {i j} (t : List Nat) (h : i = tx t := by decide +kernel) : XE X ρ (.Constant (.str i) j pos) (.tx t) := by
  rw [h]
  exact xe_str
theorem x_strI {i : Int} (B : Bx X P w K mg base k N nk) (q : Nat) (hm : mg "str" = none) (ha : XE X ρ e (.int i)) (hz : i.natAbs.log2 < 1920) (hj : nk[q]? = some (("str" : Str), NameKind.globalImplicit) := by rfl) (he : starEach (e :: []) X.env = (false, eval e X.env) :: starEach [] X.env := by rfl) (hpl : (backTo pos (starEach [] X.env)).any (·.1) = false := by rfl) : XE X ρ (.Call (.Name "str" p) [e] [] pos) (.tx (intL i)) := by
  have := x_str B q hm ha hz hj he hpl (p := p) (pos := pos)
  rw [str_intL] at this
  exact this
theorem x_cat (ha : XE X ρ a (.tx t)) (hb : XE X ρ b (.tx u)) (h : t.length + u.length ≤ 1000000) : XE X ρ (.BinOp a .Add b pos) (.tx (t ++ u)) := by
  have := x_bin (pos := pos) ha hb (.catS _ _ (by rw [tx_len, tx_len, sizeLine_eq]; omega))
  rw [show tx t ++ tx u = tx (t ++ u) from SX.S_cat t u] at this
  exact this
theorem x_lenT (B : Bx X P w K mg base k N nk) (j : Nat) (hm : mg "len" = none) (ha : XE X ρ e (.tx t)) (h : t.length ≤ 1000000) (hj : nk[j]? = some (("len" : Str), NameKind.globalImplicit) := by rfl) (he : starEach (e :: []) X.env = (false, eval e X.env) :: starEach [] X.env := by rfl) (hpl : (backTo pos (starEach [] X.env)).any (·.1) = false := by rfl) : XE X ρ (.Call (.Name "len" p) [e] [] pos) (.int t.length) := by
  have := xe_lenS (p := p) (pos := pos) (B.gl hj) (B.none hm) ha (by rw [tx_len, sizeLine_eq]; omega) he hpl
  rw [tx_len] at this
  exact this
theorem x_ixC {i : Int} {c : Nat} (ha : XE X ρ a (.tx t)) (hb : XE X ρ b (.int i)) (hi : atI t i = some c) (h : t.length ≤ 1000000) (hs : PlainIx b := by exact fun _ _ => rfl) : XE X ρ (.Subscript a b pos) (.tx [c]) :=
  xe_ixS ha hb (by rw [tx_len, sizeLine_eq]; omega) hi hs
theorem x_sliceT {lo hi : Option Expr} {i j : Option Int} {p2 : Pos} (ha : XE X ρ a (.tx t)) (hl : XP X ρ lo i) (hh : XP X ρ hi j) (h : t.length ≤ 1000000) : XE X ρ (.Subscript a (.Slice lo hi none p2) pos) (.tx (cutL t i j)) := by
  have := x_sliceS (p2 := p2) (pos := pos) ha hl hh (by rw [tx_len, sizeLine_eq]; omega)
  rw [cutS_tx] at this
  exact this
theorem t_notInT {q : Nat} (ha : XE X ρ a (.tx [q])) (hb : XE X ρ b (.tx u)) (hm : behindInMarks .NotIn b = false := by rfl) : XT X ρ (.Compare a [.NotIn] [b] pos) (!decide (q ∈ u)) :=
  PT.imp (pt_cmpR op_notIn_sign ha hb hm) fun σ H Q ⟨Bv, Bs, Hv, g, k⟩ => ⟨Bv, Bs, Hv, g, fun v1 H1 Hv1 g1 e1 r1 => ⟨Bv, Bs, Hv1, g1, fun v2 H2 Hv2 g2 e2 r2 => by
    exact ⟨q, tx u, rp_v r1, rp_v r2, _, rfl, k H2 Hv2 g2 (e1.trans e2)⟩⟩⟩
/-- x in a list of data -/
structure InD (d : D) (l : List D) (b : Bool) : Prop where
  ex : ∃ p ps, toPy d = some p ∧ toPyL l = some ps ∧ SeqAt.shaped p = true ∧ SeqAt.shaped (.list ps) = true ∧ (ps.any fun z => PyData.eqv z p) = b
/-- a text.join(a list of texts) -/
theorem x_join {ys : List (List Nat)} {ap : Pos} (ha : XE X ρ e (.tx t)) (hb : XQ X ρ b l) (hy : l = txs ys) (h : (ys.map (·.length)).sum + ys.length * t.length ≤ 1000000) (hs : starEach [b] X.env = [(false, eval b X.env)] := by rfl) (hbase : attributeBase e "join" X.env (eval e X.env) = eval e X.env := by rfl) (hline : (ap.endLine == pos.line) = true := by rfl) :
    XE X ρ (.Call (.Attribute e "join" ap) [b] [] pos) (.tx (TL.joinL t ys)) := by
  subst hy
  exact PE.imp (pe_join ha hb hs hbase hline) fun σ H Q ⟨Bv, Bs, Hv, g, k⟩ => ⟨Bv, Bs, Hv, g, fun v1 H1 Hv1 g1 e1 r1 => ⟨⟨tx t, rp_v r1⟩, Bv, Bs, Hv1, g1, fun q xs H2 Hv2 g2 e2 h3 h4 => by
    have e3 : xs = (ys.map tx).map V.str := rpL_vs (vs := (ys.map tx).map V.str) (by
      rw [List.map_map, List.map_map]
      exact h4)
    subst e3
    refine ⟨tx t, q, ys.map tx, rp_v r1, rfl, .inl h3, ?_, ?_⟩
    · rw [SX.lens, List.length_map, tx_len]
      omega
    · rw [show Txt.join (tx t) (ys.map tx) = tx (TL.joinL t ys) from SX.join_S t ys]
      exact k _ H2 Hv2 g2 (e1.trans e2) rp_v'⟩⟩
/-- int(text) -/
theorem x_intT {i : Int} (B : Bx X P w K mg base k N nk) (q : Nat) (hm : mg "int" = none) (ha : XE X ρ e (.tx t)) (hi : intText? (tx t) = some i) (hz : t.length ≤ 640) (hj : nk[q]? = some (("int" : Str), NameKind.globalImplicit) := by rfl) (he : starEach (e :: []) X.env = (false, eval e X.env) :: starEach [] X.env := by rfl) (hpl : (backTo pos (starEach [] X.env)).any (·.1) = false := by rfl) : XE X ρ (.Call (.Name "int" p) [e] [] pos) (.int i) :=
  xe_callT (us := [.str (tx t)]) call_int_str (B.gl hj) (B.none hm) (by decide +kernel) (xa_cons ha xa_nil he) (fun _ _ q => ⟨tx t, i, rfl, hi, by rw [tx_len]; exact hz, q⟩) (he := he) (hpl := hpl)
/-- a for that may end its def -/
theorem x_forX {it : Expr} (B : Bx X P w K mg base k N nk) (S : Bs X W) (hi : XI X ρ tg it ds) (h : FoD X W tg body ds ρ o) (ho : Stop o) (hs : ∀ x, foldedSetIterable it X.env x = pure x := by intro _; rfl) : XB X W ρ (.For tg it body [] pos :: more) o :=
  xb_stop (xs_for S.po B.calm hi h hs) ho
theorem fo_stop {α : Type} (q : α → Bool) {F : α → D} (ho : Stop o) (n1 : ∀ ρ, o ≠ .bk ρ) (n2 : ∀ ρ, o ≠ .ct ρ) : ∀ {as : List α}, (∀ x ∈ as, ∃ ρ1, XG X ρ tg (F x) ρ1 ∧ (q x = true → XB X W ρ1 body o) ∧ (q x = false → XB X W ρ1 body (.nx ρ))) → as.any q = true → FoD X W tg body (as.map F) ρ o
  | [], _, e => by cases e
  | x :: as, h, e => by
    obtain ⟨ρ1, h1, h2, h3⟩ := h x List.mem_cons_self
    cases hq : q x with
    | true => exact .out h1 (h2 hq) ho n1 n2
    | false =>
      refine .next h1 (h3 hq) (.inl rfl) (fo_stop q ho n1 n2 (fun y hy => h y (List.mem_cons_of_mem _ hy)) ?_)
      rw [List.any_cons, hq] at e
      exact e
theorem fo_allM {α : Type} {F : α → D} {as : List α} (h : ∀ x ∈ as, ∃ ρ1, XG X ρ tg (F x) ρ1 ∧ XB X W ρ1 body (.nx ρ)) : FoD X W tg body (as.map F) ρ (.nx ρ) := fo_all fun d hd => by
  obtain ⟨x, hx, rfl⟩ := List.mem_map.mp hd
  exact h x hx
end
section
variable {X : Cx} {W : WX} {ρ : List E} {tg a b : Expr} {body : List Stmt} {pos : Pos} {t u : List Nat}
theorem x_neT (ha : XE X ρ a (.tx t)) (hb : XE X ρ b (.tx u)) : XE X ρ (.Compare a [.NotEq] [b] pos) (.bl (!decide (t = u))) := by
  have h := xe_cmp (pos := pos) ha hb (.neS _ _)
  rw [show decide (tx t = tx u) = decide (t = u) from decide_eq_decide.mpr tx_eq] at h
  exact h
theorem t_eqT (ha : XE X ρ a (.tx t)) (hb : XE X ρ b (.tx u)) : XT X ρ (.Compare a [.Eq] [b] pos) (decide (t = u)) := by
  have h := xt_cmpv (pos := pos) ha hb (.eqS _ _)
  rw [show decide (tx t = tx u) = decide (t = u) from decide_eq_decide.mpr tx_eq] at h
  exact h
theorem t_neT (ha : XE X ρ a (.tx t)) (hb : XE X ρ b (.tx u)) : XT X ρ (.Compare a [.NotEq] [b] pos) (!decide (t = u)) := by
  have h := xt_cmpv (pos := pos) ha hb (.neS _ _)
  rw [show decide (tx t = tx u) = decide (t = u) from decide_eq_decide.mpr tx_eq] at h
  exact h
end
theorem txs_len (ts : List (List Nat)) : (txs ts).length = ts.length := by simp [txs]
/-! contracts of texts -/
def fT (f : List Nat → Ro) : List D → Ro
  | [.v (.str z)] => f z.cps.toList
  | _ => .bad
theorem inv_T {f : List Nat → Ro} {ds : List D} (h : fT f ds ≠ .bad) : ∃ l, ds = [.tx l] ∧ f l ≠ .bad := by
  unfold fT at h
  split at h
  · rename_i z
    exact ⟨z.cps.toList, by rw [D.tx, ← ofTx], h⟩
  · exact absurd rfl h
end PL
/-! exceptions, on: a clause without a name, what a suite asks -/
namespace PL
open PySem PySem.Spec L2
open Evl (Ex)
section
variable {X : Cx} {P : Program} {w : World} {K : PySem.W.Frag} {mg : Str → Option Value} {base : Heap} {k k' n : Nat} {N : List Str} {nk : List (Str × NameKind)} {W : WX}
variable {ρ ρ' ρ1 ρ2 : List E} {e a b c tg : Expr} {es : List Expr} {d f : D} {ds l m : List D} {pos p p' : Pos} {s : Str} {o o1 : Out} {kd : NameKind} {φ : List D → Ro} {body sts other more : List Stmt} {st : Stmt} {Bo : Bool} {C F : Addr}
theorem Fin.suite {K : PySem.W.Frag} {W W' : WX} {Bv Bs : Hp} {D : Ends} (h : Fin K W Bv Bs D o) (q : noExc o) : Fin K W' Bv Bs D o := h.noX q
end
end PL
/-! exceptions that bear a context, suites that raise, classes with an __init__ of their own, calls and fields in a suite -/
namespace PL
open PySem PySem.Spec L2
open Evl (Ex)
/-! ### contracts of defs that may raise within a suite -/
structure FnL (P : Program) (w : World) (K : PySem.W.Frag) (mg : Str → Option Value) (base : Heap) (x : Str) (k n : Nat) (φ : List D → Ro) : Prop where
  ex : ∃ f fd ps, mg x = some (.ref f) ∧ FnOk P w K mg base (L2.CX P w) k f fd ps (spD K n φ) ∧ PySem.W.keepIn K (.ref f) = true ∧ Binds K fd ps []
def noX (φ : List D → Ro) : List D → Ro := fun ds => match φ ds with
  | .exc _ _ _ => .bad
  | r => r
def isX : Ro → Prop
  | .exc _ _ _ => False
  | _ => True
theorem noX_of {φ : List D → Ro} {ds : List D} {r : Ro} (h : φ ds = r) (q : isX r := by trivial) : noX φ ds = r := by
  unfold noX
  rw [h]
  cases r <;> first | rfl | exact q.elim
theorem finR_noX {K : PySem.W.Frag} {Hv H : Hp} {Q : VK} {E E' : XK} {φ : List D → Ro} {ds : List D} (h : FinR K Hv H Q E (noX φ ds)) : FinR K Hv H Q E' (φ ds) := by
  unfold noX at h
  generalize φ ds = r at h
  cases r with
  | exc => exact h.elim
  | _ => exact h
theorem FnL.n {P : Program} {w : World} {K : PySem.W.Frag} {mg : Str → Option Value} {base : Heap} {x : Str} {k n : Nat} {φ : List D → Ro} (F : FnL P w K mg base x k n φ) : FnC P w K mg base x k n (noX φ) := by
  obtain ⟨f, fd, ps, h1, h2, h3, h4⟩ := F.ex
  refine ⟨f, fd, ps, h1, ⟨fun vs H Q E ⟨Hv, ds, e, r, hl, q⟩ => h2.len vs H Q E0 ⟨Hv, ds, e, r, hl, finR_noX q⟩, fun A outer s H args us vs Q E hr he hb hv ⟨Hv, ds, e, r, hl, q⟩ => ?_⟩, h3, h4⟩
  refine codeAny_mono (h2.run A outer s H args us vs Q E0 hr he hb hv ⟨Hv, ds, e, r, hl, finR_noX q⟩) fun r s' hq => ?_
  cases r with
  | ok fl => cases fl <;> exact hq
  | error er =>
    obtain ⟨_, _, _, _, _, _, _, _, _, _, _, _, z⟩ := hq
    exact z.elim
/-- a body of such a def -/
structure Bl (X : Cx) (W : WX) : Prop where
  tk : L2.Takes X W
  pa : ∀ hd : Option Value, PassesOwnAt (model X.prog X.w) (X.A.mark hd) X.A X.env X.xe
section
variable {P : Program} {w : World} {K : PySem.W.Frag} {mg : Str → Option Value} {base : Heap}
theorem def_okL {x : Str} {st : Stmt} {ps : List Str} {N : List Str} {nk : List (Str × NameKind)} {k n : Nat} {φ : List D → Ro} (T : DefAt K mg x st ps) (S : FnScope N ps (defScope st)) (hnk : (defScope st).names = nk) (hnd : (nk.map (·.1)).Nodup) (hn : ps.length = n)
    (body : ∀ (X : Cx) (W : WX) (ds : List D), Bx X P w K mg base k N nk → Bs X W → Bl X W → ds.length = n → φ ds ≠ .bad → ∃ o, XB X W (startE N ds) (defBody st) o ∧ Leads o (φ ds)) : FnL P w K mg base x (k + 1) n φ := by
  obtain ⟨f, fd, F, hm, hb⟩ := T
  refine ⟨f, fd, ps, hm, F.okX S (fun vs H Q E ⟨Hv, ds, _, r, hl, _⟩ => by rw [rpL_len r, hl, hn]) (fun cdv A outer s H vs Q E hr ⟨Hv, ds, e, r, hl, q⟩ => ?_), F.kp, hb⟩
  have nb : φ ds ≠ .bad := fun z => by
    rw [z] at q
    exact q
  have tk : L2.Takes (cxOf (L2.CX P w) P w K mg base N x (defScope st) f cdv A outer s H E) (fun cls d _ H => E cls d H) := takes_of rfl rfl rfl rfl
  obtain ⟨o, ho, hL⟩ := body _ (fun cls d _ H => E cls d H) ds ⟨rfl, rfl, rfl, rfl, rfl, hr, rfl, rfl, fun j s kd hj => ⟨kd, by
    show (defScope st).names.lookup s = some kd
    rw [hnk]
    exact lookup_at hnd hj, .inl rfl⟩, S.nd⟩ ⟨passes_of rfl, takesN_of tk, fun _ => rfl, S.kind, rfl, rfl⟩ ⟨tk, L2H.passesAt_of rfl⟩ hl nb
  refine ⟨_, ho, Hv, H, Hv, sg_start e r, ?_⟩
  generalize φ ds = R at q hL
  cases hL with
  | nx ρ => exact fun σ H' Hv' g => q .non H' Hv' g.vx rp_v'
  | ret d => exact fun v H' Hv' x r => q v H' Hv' x r
  | fr l => exact fun p xs H' Hv' x h1 h2 h3 r => q p xs H' Hv' x h1 h2 h3 r
  | frv l => exact fun p xs H' Hv' x h1 h2 h3 r => q (.ref p) H' (upd Hv' p (.lst xs)) (x.freeze h2 h3 h1) (by
      unfold Rp
      exact ⟨p, xs, rfl, .inl (.inl upd_same), rpL_mono (Ex.new h2) r⟩)
  | exc C ns ds ρ => exact fun od σ H' Hv' g x => q od H' Hv' g.vx x
  | frP a b => exact fun p x y H' Hv' v h1 h2 h3 h4 => q p x y H' Hv' v h1 h2 h3 h4
end
section
variable {X : Cx} {P : Program} {w : World} {K : PySem.W.Frag} {mg : Str → Option Value} {base : Heap} {k k' n : Nat} {N : List Str} {nk : List (Str × NameKind)} {W : WX}
variable {ρ ρ' ρ1 ρ2 : List E} {e a b c tg : Expr} {es : List Expr} {d f : D} {ds l m : List D} {pos p p' : Pos} {s : Str} {o o1 : Out} {kd : NameKind} {φ : List D → Ro} {body sts other more : List Stmt} {st : Stmt} {Bo : Bool} {C F : Addr}
/-- a call that lets such an exception out -/
theorem x_callXL {ns : List Str} {xs : List D} (B : Bx X P w K mg base k N nk) (T : L2.Takes X W) (Fc : FnL P w K mg base s k' n φ) (j : Nat) (ha : XA X ρ (e :: es) ds) (hφ : φ ds = .exc C ns xs) (hn : ds.length = n := by rfl) (hj : nk[j]? = some (s, .globalImplicit) := by rfl) (hk : k' ≤ k := by decide) (hdb : (s == ("__debug__" : Str)) = false := by decide +kernel)
    (he : starEach (e :: es) X.env = (false, eval e X.env) :: starEach es X.env := by rfl) (hpl : (backTo pos (starEach es X.env)).any (·.1) = false := by rfl) : XX X W ρ (.Call (.Name s p) (e :: es) [] pos) C ns xs := by
  obtain ⟨f, fd, ps, hm, Fo, hkp, hb⟩ := Fc.ex
  have h1 := B.hP; have h2 := B.hw; have h3 := B.hK; have h4 := B.hm; have h5 := B.hb
  subst h1 h2 h3 h4 h5
  refine PE.imp (pe_callS Fo (B.room.mono hk) (B.gl hj) hm hkp hb (fun σ => L2.passAt T σ) ha hdb he hpl) fun σ H Q ⟨Bv, Bs, Hv, g, kk⟩ => ⟨Bv, Bs, Hv, g, fun vs H1 Hv1 g1 e1 r1 => ?_⟩
  refine ⟨Hv1, ds, g1.vx.vh, r1, hn, ?_⟩
  rw [hφ]
  exact fun od H' Hv' x r => kk od H' Hv' (g1.go x) r

/-! ### try .. except F as y, of an exception that may bear a context -/
theorem xs_tryAsL {x y : Str} {np pos' : Pos} {b₀ : Stmt} {suite : List Stmt} {ns : List Str} {xs : List D} {oS : Out} (B : Bx X P w K mg base k N nk) (S : Bs X W) (T : ExCls K mg x F) (i j j2 : Nat)
    (hb : ∀ (Y : Cx) (W' : WX), Bx Y P w K mg base k N nk → Bs Y W' → L2.Takes Y W' → Y.env = X.env → XB Y W' ρ body (.exc C ns xs ρ1)) (hex : PySem.W.exmOne K (.ref C) (.ref F) = some true)
    (hsu : ∀ (Y : Cx) (a : Addr) (od : Option Addr), Hx Y X K mg N nk C a od → XB Y W0 (ρ1.set i (.exc a od ns xs)) (b₀ :: suite) oS) (q : noExc oS)
    (hi : N[i]? = some y := by rfl) (hj2 : nk[j2]? = some (y, .local) := by rfl) (hj : nk[j]? = some (x, .globalImplicit) := by rfl) (hd : (x == ("__debug__" : Str)) = false := by decide +kernel) :
    XS X W ρ (.Try body [.ExceptHandler (some (.Name x np)) (some y) (b₀ :: suite) pos'] [] [] pos) (outAs i oS) := by
  refine PS.imp (ps_try_as (tb := fun W' => tS X.K W' ρ (.exc C ns xs ρ1)) (ts := fun a cls od => fun D σ H => ∃ t : TS, (∀ (oe : Obj) (pn : List (Addr × Obj)), Zc cls od oe → (∃ vs, oe.data = .fields vs) → PSs (X.suite a ((a, oe) :: pn)) (b₀ :: suite) t) ∧ t D σ H)
    S.st S.fr B.nd (B.at_ hi) (B.lookup_loc hj2) (c := .ref F) ⟨B.gl hj, hd, .inl (by rw [B.hm]; exact T.mg_)⟩ (takesW0) (fun W' pn xe tk po => hb _ W' (B.tr pn xe) (S.tr (takesN_of tk) po) tk rfl)
    fun a oe cls od pn hz hf => ⟨fun pins s σ H D I ⟨t, h, w⟩ => (h oe pn hz hf).run pins s σ H D I w⟩) fun D σ H ⟨Bv, Bs, Hv, g, k⟩ => ⟨Bv, Bs, Hv, g, fun od σ' H' Hv' g' x' => ?_⟩
  refine ⟨true, by rw [B.hK]; exact hex, fun _ a na => ?_, nofun⟩
  refine ⟨tS X.K W0 (ρ1.set i (.exc a od ns xs)) oS, fun oe pn hz hf => hsu _ a od ⟨⟨oe, pn, rfl, hz, hf⟩, B.hK, B.hm, B.hN, B.hs, B.nd⟩, Bv, Bs, Hv', g'.setAt rfl ⟨rfl, x'⟩, ?_⟩
  exact Fin.suiteAs i k q

/-! ### suites that raise -/
structure Hr (Y : Cx) (P : Program) (w : World) (K : PySem.W.Frag) (mg : Str → Option Value) (base : Heap) (k : Nat) (N : List Str) (nk : List (Str × NameKind)) (W : WX) : Prop where
  hP : Y.prog = P
  hw : Y.w = w
  hK : Y.K = K
  hm : Y.mg = mg
  hb : Y.base = base
  hN : Y.N = N
  hs : ∀ (j : Nat) (s : Str) (kd : NameKind), nk[j]? = some (s, kd) → ∃ kd', Y.env.scope.names.lookup s = some kd' ∧ (kd' = kd ∨ (kd = .free ∧ kd' = .cell))
  room : L2H.RoomH k Y.A
  hot : L2H.HotC Y
  tk : L2.Takes Y W
theorem Hr.gl {Y : Cx} (B : Hr Y P w K mg base k N nk W) {j : Nat} (hj : nk[j]? = some (s, .globalImplicit)) : Gl Y s := by
  obtain ⟨kd', h1, rfl | ⟨z, _⟩⟩ := B.hs j s _ hj
  · exact h1
  · cases z
theorem Hr.vis {Y : Cx} (B : Hr Y P w K mg base k N nk W) {j : Nat} (hj : nk[j]? = some (s, kd)) (h : isVis kd = true) : Vis Y.env.scope s := by
  obtain ⟨kd', h1, rfl | ⟨rfl, rfl⟩⟩ := B.hs j s kd hj
  · cases kd' with
    | «local» => exact .inl h1
    | cell => exact .inr (.inl h1)
    | free => exact .inr (.inr h1)
    | _ => cases h
  · exact .inr (.inl h1)
theorem xs_tryR {x : Str} {np pos' : Pos} {b₀ : Stmt} {suite : List Stmt} {ns : List Str} {xs : List D} {oS : Out} (B : Bx X P w K mg base k N nk) (S : Bs X W) (L : Bl X W) (T : ExCls K mg x F) (j : Nat)
    (hb : ∀ (Y : Cx) (W' : WX), Bx Y P w K mg base k N nk → Bs Y W' → Y.env = X.env → XB Y W' ρ body (.exc C ns xs ρ1)) (hex : PySem.W.exmOne K (.ref C) (.ref F) = some true)
    (hsu : ∀ (Y : Cx), Hr Y P w K mg base k N nk W → XB Y W ρ1 (b₀ :: suite) oS)
    (hj : nk[j]? = some (x, .globalImplicit) := by rfl) (hd : (x == ("__debug__" : Str)) = false := by decide +kernel) :
    XS X W ρ (.Try body [.ExceptHandler (some (.Name x np)) none (b₀ :: suite) pos'] [] [] pos) oS := by
  refine PS.imp (L2H.ps_try_onlyX (Wout := W) (tb := fun W' => tS X.K W' ρ (.exc C ns xs ρ1)) (ts := fun a cls od => fun D σ H => ∃ t : TS, (∀ (oe : Obj) (pn : List (Addr × Obj)), L2.Takes (L2H.suiteX X a ((a, oe) :: pn)) W → L2H.HotC (L2H.suiteX X a ((a, oe) :: pn)) → PSs (L2H.suiteX X a ((a, oe) :: pn)) (b₀ :: suite) t) ∧ t D σ H)
    S.st S.fr (c := .ref F) ⟨B.gl hj, hd, .inl (by rw [B.hm]; exact T.mg_)⟩ L.pa L.tk (fun W' pn xe tk _ po => hb _ W' (B.tr pn xe) (S.tr tk po) rfl)
    fun a oe cls od pn hz hf tk hot => ⟨fun pins s σ H D I ⟨t, h, w⟩ => (h oe pn tk hot).run pins s σ H D I w⟩) fun D σ H ⟨Bv, Bs, Hv, g, k⟩ => ⟨Bv, Bs, Hv, g, fun od σ' H' Hv' g' x' => ?_⟩
  refine ⟨true, by rw [B.hK]; exact hex, fun _ a na => ?_, nofun⟩
  exact ⟨tS X.K W ρ1 oS, fun oe pn tk hot => hsu _ ⟨B.hP, B.hw, B.hK, B.hm, B.hb, B.hN, B.hs, L2H.roomH_mark B.room _, hot, tk⟩, Bv, Bs, Hv', g', k⟩
/-- raise X('text') in a suite -/
theorem x_raiseS {t : Str} {jj : Nat} {p2 p3 : Pos} {Y : Cx} (B : Hr Y P w K mg base k N nk W) (T : ExCls K mg s C) (q : PySem.W.excIn K C veM "ValueError.__new__" = true) (j : Nat) (hj : nk[j]? = some (s, .globalImplicit) := by rfl) (hd : (s == ("__debug__" : Str)) = false := by decide +kernel) :
    XB Y W ρ (.Raise (some (.Call (.Name s p) [.Constant (.str t) jj p2] [] p3)) none pos :: more) (.exc C [] [] ρ) := by
  refine xb_stop (PS.imp (L2H.ps_raiseH B.hot B.tk (L2N.pmk_own PySem.F.excBase_ValueError (by rw [B.hK]; exact q) (by rw [B.hm]; exact T.mg_) (by rw [B.hK]; exact T.kp) (T.raises B.hK) (B.gl hj) hd)) fun D σ H ⟨Bv, Bs, Hv, g, k⟩ => ?_) trivial
  exact k none σ H Hv g (.inl ⟨rfl, rfl, rfl⟩)
end
end PL
/-! classes of exceptions with an __init__ of their own: made, raised, in a suite too -/
namespace PL
open PySem PySem.Spec L2
open Evl (Ex)
/-- the class F, named s, has ValueError's own __init__ -/
structure VeC (K : PySem.W.Frag) (mg : Str → Option Value) (s : Str) (F : Addr) : Prop where
  mg_ : mg s = some (.ref F)
  rd : PySem.W.readsIn K F (.type "type") = true
  ga : PySem.W.specialIn K (.ref F) "__getattribute__" = some (some (.builtin "type.__getattribute__"))
  ini : PySem.W.findCls K (.ref F) (.type "type") "__init__" = some (.val (.builtin "ValueError.__init__"))
section
variable {X : Cx} {e : Expr} {es : List Expr} {ta : TA} {s : Str} {F : Addr} {p1 p2 pos : Pos}
end
/-- what such a class's __init__ does: one field -/
def spX (C : Addr) (f : Str) : Sp := fun vs H Q _ => ∃ a v, vs = [.ref a, v] ∧ H a = some (exo a C none) ∧ ∀ d, H d = none → d ≠ a → Q .non (upd (upd H d (exd d [(f, v)])) a (exo a C (some d)))
section
variable {X : Cx} {C F : Addr} {f prm s t : Str} {j : Nat} {p1 p2 p3 p4 p5 p6 p7 p8 p9 p10 : Pos}
end
/-- a class of exceptions, named s, at C, that keeps one thing as its field f -/
structure ExI (P : Program) (w : World) (K : PySem.W.Frag) (mg : Str → Option Value) (base : Heap) (s : Str) (C : Addr) (f : Str) : Prop where
  cls : ExCls K mg s C
  oex : OexC K C
  no : PySem.W.findIn K (.ref C) f = some none
  ini : ∃ fI fd ps, PySem.W.findIn K (.ref C) "__init__" = some (some (.ref fI)) ∧ PySem.W.typeIn K (.ref fI) = some (.type "function") ∧ FnOk P w K mg base (L2N.CX P w) 1 fI fd ps (spX C f) ∧ L2H.FnH P w K mg base (L2N.CX P w) 1 fI fd ps (spX C f) ∧ Binds K fd ps []
section
variable {X : Cx} {P : Program} {w : World} {K : PySem.W.Frag} {mg : Str → Option Value} {base : Heap} {k k' n : Nat} {N : List Str} {nk : List (Str × NameKind)} {W : WX}
variable {ρ ρ' ρ1 ρ2 : List E} {e a b c tg : Expr} {es : List Expr} {d f : D} {ds l m : List D} {pos p p' : Pos} {s : Str} {o o1 : Out} {kd : NameKind} {φ : List D → Ro} {body sts other more : List Stmt} {st : Stmt} {Bo : Bool} {C F : Addr}
end
end PL
/-! defs that are called where an exception is handled, whatever it is -/
namespace PL
open PySem PySem.Spec L2
open Evl (Ex)
/-- a def's promise there: the object at p.1 stands as p.2 -/
structure FnP (P : Program) (w : World) (K : PySem.W.Frag) (mg : Str → Option Value) (base : Heap) (k : Nat) (f : Addr) (fd : FuncData) (ps : List Str) (sp : Addr × Obj → List V → Hp → VK → Prop) : Prop where
  len : ∀ p vs H Q, sp p vs H Q → vs.length = ps.length
  run : ∀ (A : Around) (outer : List Env) (s : Shared) (H : Hp) (args : Args) (us : List Value) (vs : List V) (Q : VK) (p : Addr × Obj), L2H.RoomH k A → L2H.PinOk outer H s p → Env0 P w K mg base A outer s H → BindsTo s fd args (ps.zip us) → Vals vs us → sp p vs H Q →
    codeAny (model P w) A (.call (.ref f) args) (CR (L2N.CX P w) outer P w H s Q E0) s
/-- the context of its body -/
abbrev cxP (P : Program) (w : World) (K : PySem.W.Frag) (mg : Str → Option Value) (base : Heap) (N : List Str) (qual : Str) (scope : Scope) (f : Addr) (cd : Value) (A : Around) (outer : List Env) (s : Shared) (H : Hp) (p : Addr × Obj) : Cx := L2H.cxH (L2N.CX P w) P w K mg base N qual scope f cd A outer s H E0 p
/-- a contract in terms of data -/
structure FnQ (P : Program) (w : World) (K : PySem.W.Frag) (mg : Str → Option Value) (base : Heap) (x : Str) (k n : Nat) (φ : List D → Ro) : Prop where
  ex : ∃ f fd ps, mg x = some (.ref f) ∧ FnP P w K mg base k f fd ps (fun _ vs H Q => spD K n φ vs H Q E0) ∧ PySem.W.keepIn K (.ref f) = true ∧ Binds K fd ps []
/-- what stands around such a body, or a suite -/
structure Hq (Y : Cx) (P : Program) (w : World) (K : PySem.W.Frag) (mg : Str → Option Value) (base : Heap) (k : Nat) (N : List Str) (nk : List (Str × NameKind)) : Prop where
  hP : Y.prog = P
  hw : Y.w = w
  hK : Y.K = K
  hm : Y.mg = mg
  hb : Y.base = base
  hN : Y.N = N
  hs : ∀ (j : Nat) (s : Str) (kd : NameKind), nk[j]? = some (s, kd) → ∃ kd', Y.env.scope.names.lookup s = some kd' ∧ (kd' = kd ∨ (kd = .free ∧ kd' = .cell))
  room : L2H.RoomH k Y.A
  pin : ∃ p, p ∈ Y.pn
section
variable {X Y : Cx} {P : Program} {w : World} {K : PySem.W.Frag} {mg : Str → Option Value} {base : Heap} {k k' n : Nat} {N : List Str} {nk : List (Str × NameKind)} {W : WX}
variable {ρ ρ' ρ1 ρ2 : List E} {e a b c tg : Expr} {es : List Expr} {d f : D} {ds l m : List D} {pos p p' : Pos} {s : Str} {o o1 : Out} {kd : NameKind} {φ : List D → Ro} {body sts other more : List Stmt} {st : Stmt} {Bo : Bool} {C F : Addr}
theorem Hx.q {aa : Addr} {od : Option Addr} (H : Hx Y X K mg N nk C aa od) (B : Bx X P w K mg base k N nk) : Hq Y P w K mg base k N nk := by
  obtain ⟨oe, pn, rfl, hz, hf⟩ := H.hY
  exact ⟨B.hP, B.hw, H.hK, H.hm, B.hb, H.hN, H.hs, L2H.roomH_mark B.room _, _, List.mem_cons_self⟩
theorem Hr.q (H : Hr Y P w K mg base k N nk W) : Hq Y P w K mg base k N nk := by
  obtain ⟨p, _, hp⟩ := H.hot
  exact ⟨H.hP, H.hw, H.hK, H.hm, H.hb, H.hN, H.hs, H.room, p, hp⟩
theorem Hq.gl (B : Hq Y P w K mg base k N nk) {j : Nat} (hj : nk[j]? = some (s, .globalImplicit)) : Gl Y s := by
  obtain ⟨kd', h1, rfl | ⟨z, _⟩⟩ := B.hs j s _ hj
  · exact h1
  · cases z
theorem Hq.vis (B : Hq Y P w K mg base k N nk) {j : Nat} (hj : nk[j]? = some (s, kd)) (h : isVis kd = true) : Vis Y.env.scope s := by
  obtain ⟨kd', h1, rfl | ⟨rfl, rfl⟩⟩ := B.hs j s kd hj
  · cases kd' with
    | «local» => exact .inl h1
    | cell => exact .inr (.inl h1)
    | free => exact .inr (.inr h1)
    | _ => cases h
  · exact .inr (.inl h1)
theorem Hq.none (B : Hq Y P w K mg base k N nk) (h : mg s = none) : Y.mg s = none := by
  rw [B.hm]
  exact h
end
end PL
/-! a text, so many times -/
namespace PL
open PySem PySem.Spec L2
theorem rep_fold (l : List Nat) : ∀ (n : Nat) (acc : List Nat), ((List.replicate n l.toArray).foldl (· ++ ·) acc.toArray : Array Nat) = (acc ++ (List.replicate n l).flatten).toArray
  | 0, acc => by simp
  | n + 1, acc => by
    rw [List.replicate_succ, List.foldl_cons, List.replicate_succ, List.flatten_cons, show (acc.toArray ++ l.toArray : Array Nat) = (acc ++ l).toArray by simp, rep_fold l n (acc ++ l), List.append_assoc]
theorem rep_len (l : List Nat) : ∀ n : Nat, (List.replicate n l).flatten.length = n * l.length
  | 0 => by simp
  | n + 1 => by
    rw [List.replicate_succ, List.flatten_cons, List.length_append, rep_len l n, Nat.succ_mul, Nat.add_comm]
section
variable {X : Cx} {ρ : List E} {a b : Expr} {pos : Pos}
theorem op_mulS : OpR X (binaryOp .Mult) (fun x y H Q => ∃ (l : List Nat) (n : Nat), x = .str (tx l) ∧ y = .int (n : Int) ∧ 2 ≤ n ∧ n ≤ 10000 ∧ l ≠ [] ∧ l.length * n ≤ 100000 ∧ Q (.str (tx (List.replicate n l).flatten)) H) := by
  intro pins s σ H x y v u Q I rx ry h
  obtain ⟨l, n, rfl, rfl, h2, h3, h4, h5, q⟩ := h
  obtain ⟨t, rfl⟩ := (show ∃ t, v = Value.str (tx l) t from rx)
  obtain ⟨t', rfl⟩ := (show ∃ t, u = Value.int (n : Int) t from ry)
  have hp : 0 < l.length := List.length_pos_iff.mpr h4
  have hx : (tx l).length = l.length := tx_len l
  have e1 : ¬ ((n : Int) < 1) := by omega
  have e2 : ((n : Int) == 1 || (tx l).length == 0) = false := by
    rw [hx, Bool.or_eq_false_iff, beq_eq_false_iff_ne, beq_eq_false_iff_ne]
    omega
  have hn : (n : Int).toNat = n := rfl
  have z1 : ¬ (n : Int) < -(2 ^ 63 : Int) := Int.not_lt.mpr (Int.le_trans (by decide : -(2 ^ 63 : Int) ≤ 0) (Int.natCast_nonneg n))
  have z2 : ¬ (n : Int) ≥ 2 ^ 63 := Int.not_le.mpr (Int.lt_of_le_of_lt (show (n : Int) ≤ 10000 by omega) (by decide))
  refine PySem.P.mul_str (by
      rw [decide_eq_false z1, decide_eq_false z2]
      rfl) (fun _ _ hgt => ?_) (fun _ _ => ?_) ?_
  · rw [hx] at hgt
    have k5 : (l.length : Int) * (n : Int) ≤ 100000 := by
      rw [← Int.natCast_mul]
      exact Int.ofNat_le.mpr h5
    have k6 : (l.length : Int) ≤ (2 ^ 63 - 1) / (n : Int) := (Int.le_ediv_iff_mul_le (by omega)).mpr (Int.le_trans k5 (by decide))
    exact absurd hgt (Int.not_lt.mpr k6)
  · rw [hx, hn]
    unfold Builtin.Str.tooLong
    simp only [decide_eq_false_iff_not, sizeLine_eq]
    omega
  · rw [if_neg e1, e2, if_neg (by decide)]
    have e3 : (⟨(List.replicate (n : Int).toNat (tx l).cps).foldl (· ++ ·) #[]⟩ : Str) = tx (List.replicate n l).flatten := by
      show (⟨_⟩ : Str) = ⟨_⟩
      rw [hn, show (#[] : Array Nat) = ([] : List Nat).toArray from rfl, rep_fold l n []]
      rfl
    rw [e3]
    refine ⟨?_, .str (tx (List.replicate n l).flatten), H, I.tok _, ⟨_, rfl⟩, q⟩
    rw [tx_len, rep_len, sizeLine_eq]
    rw [Nat.mul_comm] at h5
    omega
/-- 'text' * n -/
theorem x_repS {l : List Nat} {n : Nat} (ha : XE X ρ a (.tx l)) (hb : XE X ρ b (.int (n : Int))) (h : (2 ≤ n ∧ n ≤ 10000) ∧ l ≠ [] ∧ l.length * n ≤ 100000) : XE X ρ (.BinOp a .Mult b pos) (.tx (List.replicate n l).flatten) :=
  xe_op op_mulS ha hb fun _ _ q => ⟨l, n, rfl, rfl, h.1.1, h.1.2, h.2.1, h.2.2, q⟩
end
end PL
/-! what the laws draw: cells, digits -/
namespace Dig
open PySem PySem.Spec L2 PL
def cell (ns : List Int) (k : Int) : Int := ns.getD k.toNat ((k + 2) ^ Int.toNat 5 * 1299709 % 15485863)
def small (c : Int) : Bool := decide ((if c < 0 then -c else c) < 10 ^ Int.toNat 18)
inductive Bnd : List Int → List Int → Prop where
  | nil : Bnd [] []
  | cons {d s : Int} {ds ss : List Int} : 0 ≤ d → d < s → Bnd ds ss → Bnd (d :: ds) (s :: ss)
theorem Bnd.inv {l : List Int} {s : Int} {ss : List Int} (h : Bnd l (s :: ss)) : ∃ d r, l = d :: r ∧ (0 ≤ d ∧ d < s) ∧ Bnd r ss := by
  cases h with
  | cons a b c => exact ⟨_, _, rfl, ⟨a, b⟩, c⟩
theorem Bnd.nil' {l : List Int} (h : Bnd l []) : l = [] := by
  cases h
  rfl
theorem Bnd.len : ∀ {l ss : List Int}, Bnd l ss → l.length = ss.length
  | _, _, .nil => rfl
  | _, _, .cons _ _ h => by simp [h.len]
theorem b1 {l : List Int} {s1 : Int} (h : Bnd l [s1]) : ∃ a, l = [a] ∧ 0 ≤ a ∧ a < s1 := by
  obtain ⟨a, r, rfl, h1, h⟩ := h.inv
  rw [h.nil']
  exact ⟨_, rfl, h1⟩
theorem b2 {l : List Int} {s1 s2 : Int} (h : Bnd l [s1, s2]) : ∃ a b, l = [a, b] ∧ (0 ≤ a ∧ a < s1) ∧ 0 ≤ b ∧ b < s2 := by
  obtain ⟨a, r, rfl, h1, h⟩ := h.inv
  obtain ⟨b, rfl, h2⟩ := b1 h
  exact ⟨_, _, rfl, h1, h2⟩
theorem b3 {l : List Int} {s1 s2 s3 : Int} (h : Bnd l [s1, s2, s3]) : ∃ a b c, l = [a, b, c] ∧ (0 ≤ a ∧ a < s1) ∧ (0 ≤ b ∧ b < s2) ∧ 0 ≤ c ∧ c < s3 := by
  obtain ⟨a, r, rfl, h1, h⟩ := h.inv
  obtain ⟨b, c, rfl, h2⟩ := b2 h
  exact ⟨_, _, _, rfl, h1, h2⟩
theorem b4 {l : List Int} {s1 s2 s3 s4 : Int} (h : Bnd l [s1, s2, s3, s4]) : ∃ a b c d, l = [a, b, c, d] ∧ (0 ≤ a ∧ a < s1) ∧ (0 ≤ b ∧ b < s2) ∧ (0 ≤ c ∧ c < s3) ∧ 0 ≤ d ∧ d < s4 := by
  obtain ⟨a, r, rfl, h1, h⟩ := h.inv
  obtain ⟨b, c, d, rfl, h2⟩ := b3 h
  exact ⟨_, _, _, _, rfl, h1, h2⟩
theorem b5 {l : List Int} {s1 s2 s3 s4 s5 : Int} (h : Bnd l [s1, s2, s3, s4, s5]) : ∃ a b c d e, l = [a, b, c, d, e] ∧ (0 ≤ a ∧ a < s1) ∧ (0 ≤ b ∧ b < s2) ∧ (0 ≤ c ∧ c < s3) ∧ (0 ≤ d ∧ d < s4) ∧ 0 ≤ e ∧ e < s5 := by
  obtain ⟨a, r, rfl, h1, h⟩ := h.inv
  obtain ⟨b, c, d, e, rfl, h2⟩ := b4 h
  exact ⟨_, _, _, _, _, rfl, h1, h2⟩
theorem b6 {l : List Int} {s1 s2 s3 s4 s5 s6 : Int} (h : Bnd l [s1, s2, s3, s4, s5, s6]) : ∃ a b c d e f, l = [a, b, c, d, e, f] ∧ (0 ≤ a ∧ a < s1) ∧ (0 ≤ b ∧ b < s2) ∧ (0 ≤ c ∧ c < s3) ∧ (0 ≤ d ∧ d < s4) ∧ (0 ≤ e ∧ e < s5) ∧ 0 ≤ f ∧ f < s6 := by
  obtain ⟨a, r, rfl, h1, h⟩ := h.inv
  obtain ⟨b, c, d, e, f, rfl, h2⟩ := b5 h
  exact ⟨_, _, _, _, _, _, rfl, h1, h2⟩
theorem b7 {l : List Int} {s1 s2 s3 s4 s5 s6 s7 : Int} (h : Bnd l [s1, s2, s3, s4, s5, s6, s7]) : ∃ a b c d e f g, l = [a, b, c, d, e, f, g] ∧ (0 ≤ a ∧ a < s1) ∧ (0 ≤ b ∧ b < s2) ∧ (0 ≤ c ∧ c < s3) ∧ (0 ≤ d ∧ d < s4) ∧ (0 ≤ e ∧ e < s5) ∧ (0 ≤ f ∧ f < s6) ∧ 0 ≤ g ∧ g < s7 := by
  obtain ⟨a, r, rfl, h1, h⟩ := h.inv
  obtain ⟨b, c, d, e, f, g, rfl, h2⟩ := b6 h
  exact ⟨_, _, _, _, _, _, _, rfl, h1, h2⟩
def phi_law_cell_at : List D → Ro := fLI fun l k => if 0 ≤ k ∧ k ≤ 1000000 then .val (l.getD k.toNat (.int ((k + 2) ^ Int.toNat 5 * 1299709 % 15485863))) else .bad
theorem cell_val {ns : List Int} {k : Int} (h : 0 ≤ k ∧ k ≤ 1000000) : phi_law_cell_at [.lst (ns.map D.int), .int k] = .val (.int (cell ns k)) := by
  show (if 0 ≤ k ∧ k ≤ 1000000 then Ro.val ((ns.map D.int).getD k.toNat (.int ((k + 2) ^ Int.toNat 5 * 1299709 % 15485863))) else .bad) = _
  rw [if_pos h, getD_map']
  rfl
end Dig
/-! masks: whole numbers as sets of bits -/
namespace Bits
open PySem PySem.Spec L2 PL
section
variable {X : Cx} {ρ : List E} {tg : Expr} {scope : Scope} {vs : List Nat} {elt c : Expr}
end
section
open Classical
end
end Bits
/-! fields' texts: what number_in, span_in, item_mask and read_field tell -/
namespace Fld
open PySem PL Bits TL L2
abbrev figs : List Nat := [48, 49, 50, 51, 52, 53, 54, 55, 56, 57]
theorem fig_iff {c : Nat} : c ∈ figs ↔ 48 ≤ c ∧ c ≤ 57 := by
  simp only [figs, List.mem_cons, List.not_mem_nil, or_false]
  omega
def onlyF (l : List Nat) : Bool := (l.all fun c => decide (c ∈ figs)) && !decide (l = [])
theorem onlyF_iff {l : List Nat} : onlyF l = true ↔ NumText.AllDigits l ∧ l ≠ [] := by
  unfold onlyF
  rw [Bool.and_eq_true, List.all_eq_true, Bool.not_eq_true', decide_eq_false_iff_not]
  constructor
  · exact fun h => ⟨fun c hc => fig_iff.mp (by simpa using h.1 c hc), h.2⟩
  · exact fun h => ⟨fun c hc => by simpa using fig_iff.mpr (h.1 c hc), h.2⟩
theorem onlyF_num (n : Nat) : onlyF (numL n) = true := onlyF_iff.mpr ⟨numL_digits n, numL_ne n⟩
theorem onlyF_int {l : List Nat} (h : onlyF l = true) (hl : l.length ≤ 640) : intText? (tx l) = some ((NumText.digitsVal l : Nat) : Int) :=
  intText_digits (x := tx l) (onlyF_iff.mp h).1 (onlyF_iff.mp h).2 (by rw [tx_len]; omega)
theorem onlyF_at {l : List Nat} (h : (!onlyF l) = false) : atI l 0 = some (l.headD 0) := by
  have h' : onlyF l = true := by simpa using h
  cases l with
  | nil => cases h'
  | cons c r => exact atI_nat (j := 0) rfl
theorem onlyF_not {l : List Nat} {c : Nat} (h : c ∈ l) (hc : c < 48 ∨ 57 < c) : onlyF l = false := by
  by_cases q : onlyF l = true
  · have := (onlyF_iff.mp q).1 c h
    omega
  · simpa using q
/-! the six forms -/
/-! what read_field tells -/
theorem intL_nat (n : Nat) : intL (n : Int) = numL n := by
  unfold intL
  rw [if_neg (by omega)]
  rfl
/-! fields of several items -/
section
open Classical
end
end Fld
namespace Cal
def isLong (y : Int) : Bool := decide (y % 4 = 0) && (!decide (y % 100 = 0) || decide (y % 400 = 0))
/-- days from day 0 to the year's first -/
def dB (y : Int) : Int := 365 * y + (y + 3) / 4 - (y + 99) / 100 + (y + 399) / 400
/-- how many days a month has -/
def lastOf (y m : Int) : Int := if m = 2 then (if isLong y = true then 29 else 28) else if m = 4 ∨ m = 6 ∨ m = 9 ∨ m = 11 then 30 else 31
abbrev lastsL : List L2.V := [.int 31, .int 28, .int 31, .int 30, .int 31, .int 30, .int 31, .int 31, .int 30, .int 31, .int 30, .int 31]
theorem lasts_ix {y m : Int} (h1 : 1 ≤ m) (h2 : m ≤ 12) (h : m = 2 → isLong y = false) : L2.atI (lastsL.map PL.D.v) (m - 1) = some (.int (lastOf y m)) := by
  have hm : m = 1 ∨ m = 2 ∨ m = 3 ∨ m = 4 ∨ m = 5 ∨ m = 6 ∨ m = 7 ∨ m = 8 ∨ m = 9 ∨ m = 10 ∨ m = 11 ∨ m = 12 := by omega
  rcases hm with rfl | rfl | rfl | rfl | rfl | rfl | rfl | rfl | rfl | rfl | rfl | rfl
  case inr.inl =>
    have := h rfl
    unfold lastOf
    rw [this]
    rfl
  all_goals rfl
theorem lastOf_range (y m : Int) : 28 ≤ lastOf y m ∧ lastOf y m ≤ 31 := by
  unfold lastOf
  split
  · split <;> omega
  · split <;> omega
end Cal
namespace Cal
def yA (d : Int) : Int := d * 400 / 146097
/-- the year of a day -/
def yOf (d : Int) : Int := if d < dB (yA d) then yA d - 1 else if dB (yA d + 1) ≤ d then yA d + 1 else yA d
/-- days of a year ahead of a month -/
def mB (y m : Int) : Int := (if m = 1 then 0 else if m = 2 then 31 else if m = 3 then 59 else if m = 4 then 90 else if m = 5 then 120 else if m = 6 then 151 else if m = 7 then 181 else if m = 8 then 212 else if m = 9 then 243 else if m = 10 then 273 else if m = 11 then 304 else if m = 12 then 334 else 365) + (if 2 < m ∧ isLong y = true then 1 else 0)
theorem twelve {m : Int} (h1 : 1 ≤ m) (h2 : m ≤ 12) : m = 1 ∨ m = 2 ∨ m = 3 ∨ m = 4 ∨ m = 5 ∨ m = 6 ∨ m = 7 ∨ m = 8 ∨ m = 9 ∨ m = 10 ∨ m = 11 ∨ m = 12 := by omega
/-- the month of a day of the year -/
def mOf (y l : Int) : Int := if l < mB y 2 then 1 else if l < mB y 3 then 2 else if l < mB y 4 then 3 else if l < mB y 5 then 4 else if l < mB y 6 then 5 else if l < mB y 7 then 6 else if l < mB y 8 then 7 else if l < mB y 9 then 8 else if l < mB y 10 then 9 else if l < mB y 11 then 10 else if l < mB y 12 then 11 else 12
def mo (d : Int) : Int := mOf (yOf d) (d - dB (yOf d))
/-- the number of a date -/
def dayNum (y m d : Int) : Int := dB y + mB y m + d - 1
theorem sum_lasts {y m : Int} (h1 : 1 ≤ m) (h2 : m ≤ 12) : ((List.range (m - 1).toNat).map fun k => lastOf y (1 + (k : Nat))).sum = mB y m := by
  cases h : isLong y <;> rcases twelve h1 h2 with rfl | rfl | rfl | rfl | rfl | rfl | rfl | rfl | rfl | rfl | rfl | rfl <;> simp [mB, h, List.range_succ, lastOf]
end Cal
/-! moments as texts -/
namespace Mom
open PySem PL Bits TL L2 Fld Cal NumText
def two (n : Nat) : List Nat := [48 + n / 10, 48 + n % 10]
theorem num100 {n : Nat} (h : n < 100) : numL (100 + n) = 49 :: two n := by
  rw [numL_step (by omega), show (100 + n) / 10 = 10 + n / 10 by omega, numL_step (n := 10 + n / 10) (by omega), show (10 + n / 10) / 10 = 1 by omega, numL_lt (by decide), show (10 + n / 10) % 10 = n / 10 by omega, show (100 + n) % 10 = n % 10 by omega]
  rfl
theorem two_val {n : Nat} (h : n < 100) : digitsVal (two n) = n := by
  show (0 * 10 + (48 + n / 10 - 48)) * 10 + (48 + n % 10 - 48) = n
  omega
theorem numL_head : ∀ {n : Nat}, 0 < n → (numL n).headD 0 ≠ 48 := by
  intro n
  induction n using Nat.strongRecOn with
  | _ n ih =>
    intro hn
    by_cases h : n < 10
    · rw [numL_lt h]
      show 48 + n ≠ 48
      omega
    · rw [numL_step (by omega)]
      have := ih (n / 10) (by omega) (by omega)
      cases e : numL (n / 10) with
      | nil => exact absurd e (numL_ne _)
      | cons x r =>
        rw [e] at this
        exact this
theorem digits_lt : ∀ (k : Nat) (cs : List Nat), cs.length = k → AllDigits cs → digitsVal cs < 10 ^ k
  | 0, cs, h, _ => by
    rw [List.eq_nil_of_length_eq_zero h]
    decide
  | k + 1, cs, h, hd => by
    obtain ⟨r, x, rfl⟩ : ∃ r x, cs = r ++ [x] := ⟨cs.dropLast, cs.getLast (fun e => by rw [e] at h; cases h), (List.dropLast_concat_getLast _).symm⟩
    have h1 := digits_lt k r (by simpa using h) fun c hc => hd c (List.mem_append_left _ hc)
    have h2 := hd x (by simp)
    rw [digitsVal_snoc, Nat.pow_succ]
    omega
theorem num_len_iff (n k : Nat) (hk : 0 < k) : (numL n).length ≤ k ↔ n < 10 ^ k := by
  refine ⟨fun h => ?_, fun h => numL_len hk h⟩
  have := digits_lt _ _ rfl (numL_digits n)
  rw [numL_val] at this
  exact Nat.lt_of_lt_of_le this (Nat.pow_le_pow_right (by decide) h)
theorem lgI {i : Int} (h : i.natAbs < 2 ^ 1000) : i.natAbs.log2 < 1920 := by
  by_cases q : i.natAbs = 0
  · rw [q]
    decide
  · have := (Nat.log2_lt q).mpr h
    omega
/-! the year -/
def figP (y : List Nat) : List Nat := if y.take 1 = [45] then y.drop 1 else y
def yearM (y : List Nat) : Option Int :=
  if (!onlyF (figP y) || decide (50 < (figP y).length)) = true then none
  else if (decide ((figP y).headD 0 = 48) && !decide (y = [48])) = true then none
  else some (if y.take 1 = [45] then -((digitsVal (figP y) : Nat) : Int) else ((digitsVal (figP y) : Nat) : Int))
theorem fig_int (y : Int) : figP (intL y) = numL y.natAbs ∧ ((intL y).take 1 = [45] ↔ y < 0) := by
  unfold intL
  by_cases h : y < 0
  · rw [if_pos h]
    refine ⟨?_, by simp [h]⟩
    unfold figP
    rw [show (-y).toNat = y.natAbs by omega]
    simp
  · rw [if_neg h]
    have ne : (numL y.toNat).take 1 ≠ [45] := fun e => by
      have : 45 ∈ numL y.toNat := List.mem_of_mem_take (i := 1) (by rw [e]; exact List.mem_singleton.mpr rfl)
      exact numL_free (.inl (by decide)) this
    refine ⟨?_, by simp [h, ne]⟩
    unfold figP
    rw [if_neg ne, show y.toNat = y.natAbs by omega]
theorem year_int (y : Int) : yearM (intL y) = if y.natAbs < 10 ^ 50 then some y else none := by
  obtain ⟨h1, h2⟩ := fig_int y
  unfold yearM
  rw [h1, onlyF_num, Bool.not_true, Bool.false_or, numL_val]
  have hl := num_len_iff y.natAbs 50 (by decide)
  by_cases q : y.natAbs < 10 ^ 50
  · have := hl.mpr q
    rw [if_neg (by rw [decide_eq_true_eq]; omega), if_pos q]
    have e : (decide ((numL y.natAbs).headD 0 = 48) && !decide (intL y = [48])) = false := by
      by_cases z : y = 0
      · subst z
        decide
      · rw [decide_eq_false (numL_head (by omega)), Bool.false_and]
    rw [if_neg (by rw [e]; decide)]
    congr 1
    by_cases n : y < 0
    · rw [if_pos (h2.mpr n)]
      omega
    · rw [if_neg (fun z => n (h2.mp z))]
      omega
  · have : ¬ (numL y.natAbs).length ≤ 50 := fun z => q (hl.mp z)
    rw [if_pos (by rw [decide_eq_true_eq]; omega), if_neg q]
theorem year_text {y : List Nat} (h1 : onlyF (figP y) = true) (h2 : (figP y).length ≤ 50) : intText? (tx y) = some (if y.take 1 = [45] then -((digitsVal (figP y) : Nat) : Int) else ((digitsVal (figP y) : Nat) : Int)) ∧ y.length ≤ 51 := by
  have hd := onlyF_iff.mp h1
  unfold figP at *
  by_cases q : y.take 1 = [45]
  · rw [if_pos q] at hd h1 h2 ⊢
    rw [if_pos q]
    obtain ⟨r, rfl⟩ : ∃ r, y = 45 :: r := by
      cases y with
      | nil => cases q
      | cons a r =>
        simp at q
        exact ⟨r, by rw [q]⟩
    simp only [List.drop_succ_cons, List.drop_zero] at *
    have hl : (45 :: r).length ≤ 51 := by simp; omega
    exact ⟨intText_neg (x := tx (45 :: r)) (cs := r) rfl hd.1 hd.2 (by rw [tx_len]; omega), hl⟩
  · rw [if_neg q] at hd h1 h2 ⊢
    rw [if_neg q]
    exact ⟨intText_digits (x := tx y) hd.1 hd.2 (by rw [tx_len]; omega), by omega⟩
/-! a moment's text -/
def showD (y m d h mi : Int) : List Nat := intL y ++ [45] ++ two m.toNat ++ [45] ++ two d.toNat ++ [32] ++ two h.toNat ++ [58] ++ two mi.toNat
theorem cut_last {y t : List Nat} (h : t.length = 12) : cutL (y ++ t) (some (-12)) none = t := by
  unfold cutL
  rw [show HT.sIx (y ++ t).length 0 (some (-12)) = y.length by
    show ((-12 : Int) + ((y ++ t).length : Nat)).toNat = y.length
    rw [List.length_append]; omega, show HT.sIx (y ++ t).length (y ++ t).length none = (y ++ t).length from rfl, List.drop_left, List.take_of_length_le (by rw [List.length_append]; omega)]
theorem cut_front {y t : List Nat} (h : t.length = 12) : cutL (y ++ t) none (some (-12)) = y := by
  unfold cutL
  rw [show HT.sIx (y ++ t).length (y ++ t).length (some (-12)) = y.length by
    show ((-12 : Int) + ((y ++ t).length : Nat)).toNat = y.length
    rw [List.length_append]; omega, show HT.sIx (y ++ t).length 0 none = 0 from rfl]
  simp
theorem tail12 {l : List Nat} (h : 12 < l.length) : ∃ y t0 t1 t2 t3 t4 t5 t6 t7 t8 t9 t10 t11, l = y ++ [t0, t1, t2, t3, t4, t5, t6, t7, t8, t9, t10, t11] ∧ y ≠ [] := by
  have e := (List.take_append_drop (l.length - 12) l).symm
  have hl : (l.drop (l.length - 12)).length = 12 := by rw [List.length_drop]; omega
  have hn : l.take (l.length - 12) ≠ [] := fun z => by
    have := congrArg List.length z
    rw [List.length_take, List.length_nil] at this
    omega
  generalize l.take (l.length - 12) = y at *
  generalize l.drop (l.length - 12) = t at *
  match t, hl with
  | [t0, t1, t2, t3, t4, t5, t6, t7, t8, t9, t10, t11], _ => exact ⟨y, t0, t1, t2, t3, t4, t5, t6, t7, t8, t9, t10, t11, e, hn⟩
theorem cutL_to (l : List Nat) (k : Nat) : cutL l none (some (k : Int)) = l.take k := by
  unfold cutL
  rw [HT.sIx_nat, show HT.sIx l.length 0 none = 0 from rfl, List.drop_zero, Nat.sub_zero]
  by_cases h : k ≤ l.length
  · rw [Nat.min_eq_left h]
  · rw [Nat.min_eq_right (by omega), List.take_length, List.take_of_length_le (by omega)]
theorem cutL_from (l : List Nat) (k : Nat) : cutL l (some (k : Int)) none = l.drop k := by
  unfold cutL
  rw [HT.sIx_nat, show HT.sIx l.length l.length none = l.length from rfl]
  by_cases h : k ≤ l.length
  · rw [Nat.min_eq_left h, List.take_of_length_le (by rw [List.length_drop]; omega)]
  · rw [Nat.min_eq_right (by omega), List.drop_length, List.drop_of_length_le (by omega), List.take_nil]
theorem cut_one (l : List Nat) : cutL l none (some 1) = l.take 1 := cutL_to l 1
theorem cut_rest (l : List Nat) : cutL l (some 1) none = l.drop 1 := cutL_from l 1
theorem head_one {l : List Nat} : decide (([l.headD 0] : List Nat) = [48]) = decide (l.headD 0 = 48) := by simp
/-- what read_moment gives; Q: where the date isn't there -/
def tailR (C : Addr) (Q : Ro) (y : List Nat) : List Nat → Ro
  | [t0, t1, t2, t3, t4, t5, t6, t7, t8, t9, t10, t11] =>
    if (!decide ([t0, t3, t6, t9] = [45, 45, 32, 58]) || !onlyF [t1, t2, t4, t5, t7, t8, t10, t11]) = true then .exc C [] [] else
    match yearM y with
    | none => .exc C [] []
    | some yy =>
      if (1 ≤ (digitsVal [t1, t2] : Int) ∧ (digitsVal [t1, t2] : Int) ≤ 12) ∧ 1 ≤ (digitsVal [t4, t5] : Int) ∧ (digitsVal [t4, t5] : Int) ≤ lastOf yy (digitsVal [t1, t2]) then
        (if (0 ≤ (digitsVal [t7, t8] : Int) ∧ (digitsVal [t7, t8] : Int) ≤ 23) ∧ 0 ≤ (digitsVal [t10, t11] : Int) ∧ (digitsVal [t10, t11] : Int) ≤ 59 then .val (.int (1440 * dayNum yy (digitsVal [t1, t2]) (digitsVal [t4, t5]) + 60 * (digitsVal [t7, t8] : Int) + (digitsVal [t10, t11] : Int))) else .exc C [] [])
      else Q
  | _ => .bad
def readR (C : Addr) (Q : Ro) (l : List Nat) : Ro := if l.length ≤ 12 then .exc C [] [] else tailR C Q (l.take (l.length - 12)) (l.drop (l.length - 12))
theorem read_app {C : Addr} {Q : Ro} {y t : List Nat} (h : t.length = 12) (hy : y ≠ []) : readR C Q (y ++ t) = tailR C Q y t := by
  unfold readR
  have := List.length_pos_iff.mpr hy
  rw [List.length_append, if_neg (by omega), show y.length + t.length - 12 = y.length by omega, List.take_left, List.drop_left]
theorem intL_ne (y : Int) : intL y ≠ [] := by
  unfold intL
  split
  · simp
  · exact numL_ne _
theorem showD_app (y m d h mi : Int) : showD y m d h mi = intL y ++ ([45] ++ two m.toNat ++ [45] ++ two d.toNat ++ [32] ++ two h.toNat ++ [58] ++ two mi.toNat) := by
  unfold showD
  simp only [List.append_assoc]
theorem read_shown {C : Addr} {Q : Ro} {y m d h mi : Int} (hv : (1 ≤ m ∧ m ≤ 12) ∧ 1 ≤ d ∧ d ≤ lastOf y m) (ht : (0 ≤ h ∧ h ≤ 23) ∧ 0 ≤ mi ∧ mi ≤ 59) :
    readR C Q (showD y m d h mi) = if y.natAbs < 10 ^ 50 then .val (.int (1440 * dayNum y m d + 60 * h + mi)) else .exc C [] [] := by
  have hr := lastOf_range y m
  rw [showD_app, read_app (by rfl) (intL_ne y)]
  show (if _ then _ else _) = _
  have f := onlyF_iff (l := [48 + m.toNat / 10, 48 + m.toNat % 10, 48 + d.toNat / 10, 48 + d.toNat % 10, 48 + h.toNat / 10, 48 + h.toNat % 10, 48 + mi.toNat / 10, 48 + mi.toNat % 10])
  have f' := f.mpr ⟨fun c hc => by
    simp only [List.mem_cons, List.not_mem_nil, or_false] at hc
    omega, by simp⟩
  rw [if_neg (by rw [f']; simp), year_int]
  have v := fun {n : Nat} (h : n < 100) => two_val h
  have v1 := v (n := m.toNat) (by omega)
  have v2 := v (n := d.toNat) (by omega)
  have v3 := v (n := h.toNat) (by omega)
  have v4 := v (n := mi.toNat) (by omega)
  unfold two at v1 v2 v3 v4
  by_cases q : y.natAbs < 10 ^ 50
  · rw [if_pos q, if_pos q]
    simp only
    rw [v1, v2, v3, v4, show ((m.toNat : Nat) : Int) = m by omega, show ((d.toNat : Nat) : Int) = d by omega, show ((h.toNat : Nat) : Int) = h by omega, show ((mi.toNat : Nat) : Int) = mi by omega, if_pos hv, if_pos ht]
  · rw [if_neg q, if_neg q]
end Mom
/-! texts that are no moments -/
namespace Mom
open PySem PL Bits TL L2 Fld Cal NumText
/-- the signs and the figures of a tail stand right -/
def tailOk : List Nat → Bool
  | [t0, t1, t2, t3, t4, t5, t6, t7, t8, t9, t10, t11] => decide ([t0, t3, t6, t9] = [45, 45, 32, 58]) && onlyF [t1, t2, t4, t5, t7, t8, t10, t11]
  | _ => false
abbrev rdX (C : Addr) (l : List Nat) : Ro := readR C (.exc C [] []) l
theorem len12 {t : List Nat} (h : t.length = 12) : ∃ t0 t1 t2 t3 t4 t5 t6 t7 t8 t9 t10 t11, t = [t0, t1, t2, t3, t4, t5, t6, t7, t8, t9, t10, t11] := by
  match t, h with
  | [t0, t1, t2, t3, t4, t5, t6, t7, t8, t9, t10, t11], _ => exact ⟨t0, t1, t2, t3, t4, t5, t6, t7, t8, t9, t10, t11, rfl⟩
theorem rd_short {C : Addr} {l : List Nat} (h : l.length ≤ 12) : rdX C l = .exc C [] [] := if_pos h
theorem rd_tail {C : Addr} {y t : List Nat} (h : t.length = 12) (ht : tailOk t = false) : rdX C (y ++ t) = .exc C [] [] := by
  by_cases hy : y = []
  · exact rd_short (by rw [hy, List.nil_append]; omega)
  · show readR C _ (y ++ t) = _
    rw [read_app h hy]
    obtain ⟨t0, t1, t2, t3, t4, t5, t6, t7, t8, t9, t10, t11, rfl⟩ := len12 h
    refine if_pos ?_
    have ht : (decide ([t0, t3, t6, t9] = [45, 45, 32, 58]) && onlyF [t1, t2, t4, t5, t7, t8, t10, t11]) = false := ht
    revert ht
    cases decide ([t0, t3, t6, t9] = [45, 45, 32, 58]) <;> cases onlyF [t1, t2, t4, t5, t7, t8, t10, t11] <;> simp
theorem rd_year {C : Addr} {y t : List Nat} (h : t.length = 12) (hy : yearM y = none) : rdX C (y ++ t) = .exc C [] [] := by
  by_cases h0 : y = []
  · exact rd_short (by rw [h0, List.nil_append]; omega)
  · show readR C _ (y ++ t) = _
    rw [read_app h h0]
    obtain ⟨t0, t1, t2, t3, t4, t5, t6, t7, t8, t9, t10, t11, rfl⟩ := len12 h
    show (if (!decide ([t0, t3, t6, t9] = [45, 45, 32, 58]) || !onlyF [t1, t2, t4, t5, t7, t8, t10, t11]) = true then Ro.exc C [] [] else _) = _
    split
    · rfl
    · rw [hy]
theorem year_odd {y : List Nat} {c : Nat} (h : c ∈ y) (h1 : c ≠ 45) (h2 : c < 48 ∨ 57 < c) : yearM y = none := by
  unfold yearM
  have hm : c ∈ figP y := by
    unfold figP
    split
    · rename_i q
      cases y with
      | nil => simp at h
      | cons a r =>
        simp at q
        subst q
        rcases List.mem_cons.mp h with rfl | h
        · exact absurd rfl h1
        · simpa using h
    · exact h
  rw [if_pos (by rw [onlyF_not hm h2]; rfl)]
/-- a year's text spoilt -/
def yrO (y : Int) (k : Nat) : List Nat := ([[48] ++ intL y, [43] ++ intL y, [45, 48], [], [120], intL y ++ [32], List.replicate 51 49, [45] ++ List.replicate 51 49, [50, 48, 50, 52, 46], [50, 95, 48, 50, 52]] : List (List Nat)).getD k []
theorem ten_cases {k : Nat} (h : k < 10) : k = 0 ∨ k = 1 ∨ k = 2 ∨ k = 3 ∨ k = 4 ∨ k = 5 ∨ k = 6 ∨ k = 7 ∨ k = 8 ∨ k = 9 := by omega
theorem intL_signs {y : Int} : ∀ c ∈ (intL y).drop 1, 48 ≤ c ∧ c ≤ 57 := fun c hc => by
  unfold intL at hc
  split at hc
  · have : c ∈ numL (-y).toNat := by simpa using hc
    exact numL_digits _ c this
  · exact numL_digits _ c (List.mem_of_mem_drop hc)
theorem yr_none {y : Int} {k : Nat} (h : k < 10) : yearM (yrO y k) = none := by
  rcases ten_cases h with rfl | rfl | rfl | rfl | rfl | rfl | rfl | rfl | rfl | rfl
  · show yearM (48 :: intL y) = none
    by_cases hy : y < 0
    · have e : intL y = 45 :: numL (-y).toNat := by
        unfold intL
        rw [if_pos hy]
        try rfl
      unfold yearM
      have hm : 45 ∈ figP (48 :: intL y) := by
        unfold figP
        rw [if_neg (by simp), e]
        simp
      rw [if_pos (by rw [onlyF_not hm (.inl (by decide))]; rfl)]
    · have hf : figP (48 :: intL y) = 48 :: intL y := by
        unfold figP
        rw [if_neg (by simp)]
      unfold yearM
      rw [hf]
      split
      · rfl
      · rw [if_pos (by
          have ne := intL_ne y
          simp [ne])]
  · exact year_odd (c := 43) (by simp [yrO]) (by decide) (.inl (by decide))
  · show yearM [45, 48] = none
    decide +kernel
  · show yearM [] = none
    decide +kernel
  · show yearM [120] = none
    decide +kernel
  · exact year_odd (c := 32) (by simp [yrO]) (by decide) (.inl (by decide))
  · show yearM (List.replicate 51 49) = none
    decide +kernel
  · show yearM ([45] ++ List.replicate 51 49) = none
    decide +kernel
  · show yearM [50, 48, 50, 52, 46] = none
    decide +kernel
  · show yearM [50, 95, 48, 50, 52] = none
    decide +kernel
/-! the tail's parts, told by signs; 200 stands for a figure -/
def Rf (a c : Nat) : Prop := a = c ∨ (a = 200 ∧ 48 ≤ c ∧ c ≤ 57)
inductive RfL : List Nat → List Nat → Prop where
  | nil : RfL [] []
  | cons {a c : Nat} {l m : List Nat} : Rf a c → RfL l m → RfL (a :: l) (c :: m)
theorem RfL.refl : ∀ l, RfL l l
  | [] => .nil
  | a :: l => .cons (.inl rfl) (RfL.refl l)
theorem RfL.len : ∀ {l m : List Nat}, RfL l m → m.length = l.length
  | _, _, .nil => rfl
  | _, _, .cons _ t => by rw [List.length_cons, List.length_cons, t.len]
theorem RfL.app : ∀ {l m l' m' : List Nat}, RfL l m → RfL l' m' → RfL (l ++ l') (m ++ m')
  | _, _, _, _, .nil, h => h
  | _, _, _, _, .cons a t, h => .cons a (t.app h)
theorem RfL.drop : ∀ (n : Nat) {l m : List Nat}, RfL l m → RfL (l.drop n) (m.drop n)
  | 0, _, _, h => h
  | n + 1, _, _, .nil => .nil
  | n + 1, _, _, .cons a t => RfL.drop n t
inductive RfP : List (List Nat) → List (List Nat) → Prop where
  | nil : RfP [] []
  | cons {a c : List Nat} {l m : List (List Nat)} : RfL a c → RfP l m → RfP (a :: l) (c :: m)
theorem RfP.flat : ∀ {l m : List (List Nat)}, RfP l m → RfL l.flatten m.flatten
  | _, _, .nil => .nil
  | _, _, .cons a t => by
    rw [List.flatten_cons, List.flatten_cons]
    exact a.app t.flat
theorem RfP.set : ∀ {l m : List (List Nat)} (i : Nat) {a c : List Nat}, RfP l m → RfL a c → RfP (l.set i a) (m.set i c)
  | _, _, _, _, _, .nil, _ => .nil
  | _, _, 0, _, _, .cons _ t, h => .cons h t
  | _, _, i + 1, _, _, .cons a t, h => .cons a (t.set i h)
/-- such a sign is a figure -/
def figA (a : Nat) : Bool := Nat.beq a 200 || (Nat.ble 48 a && Nat.ble a 57)
/-- the signs agree with what stands from the j-th place of a right tail on -/
def patOk : List Bool → List Nat → List Nat → Bool
  | b :: bs, p :: ps, a :: as => (bif b then figA a else Nat.beq a p) && patOk bs ps as
  | _, _, [] => true
  | _, _, _ => false
def patB : List Bool := [false, true, true, false, true, true, false, true, true, false, true, true]
def patP : List Nat := [45, 0, 0, 45, 0, 0, 32, 0, 0, 58, 0, 0]
theorem fig_a {a c : Nat} (h : Rf a c) (h1 : 48 ≤ c) (h2 : c ≤ 57) : figA a = true := by
  unfold figA
  rcases h with rfl | ⟨rfl, _, _⟩
  · rw [Nat.ble_eq.mpr h1, Nat.ble_eq.mpr h2]
    simp
  · rfl
theorem sgn_a {a c p : Nat} (h : Rf a c) (hc : c = p) (hp : p < 48 ∨ 57 < p) : Nat.beq a p = true := by
  subst hc
  rcases h with rfl | ⟨rfl, h1, h2⟩
  · exact Nat.beq_refl _
  · omega
theorem tail_false {A t : List Nat} (h : RfL A t) (hl : t.length = 12) (hp : patOk patB patP A = false) : tailOk t = false := by
  by_cases q : tailOk t = true
  · exfalso
    obtain ⟨t0, t1, t2, t3, t4, t5, t6, t7, t8, t9, t10, t11, rfl⟩ := len12 hl
    have q' : (decide ([t0, t3, t6, t9] = [45, 45, 32, 58]) && onlyF [t1, t2, t4, t5, t7, t8, t10, t11]) = true := q
    rw [Bool.and_eq_true, decide_eq_true_eq, onlyF_iff] at q'
    obtain ⟨q1, q2, -⟩ := q'
    simp only [List.cons.injEq, and_true] at q1
    obtain ⟨e0, e3, e6, e9⟩ := q1
    have d := fun c hc => q2 c hc
    cases h with | cons r0 h =>
    cases h with | cons r1 h =>
    cases h with | cons r2 h =>
    cases h with | cons r3 h =>
    cases h with | cons r4 h =>
    cases h with | cons r5 h =>
    cases h with | cons r6 h =>
    cases h with | cons r7 h =>
    cases h with | cons r8 h =>
    cases h with | cons r9 h =>
    cases h with | cons r10 h =>
    cases h with | cons r11 h =>
    cases h
    have f1 := d t1 (by simp)
    have f2 := d t2 (by simp)
    have f4 := d t4 (by simp)
    have f5 := d t5 (by simp)
    have f7 := d t7 (by simp)
    have f8 := d t8 (by simp)
    have f10 := d t10 (by simp)
    have f11 := d t11 (by simp)
    simp only [patB, patP, patOk, cond_true, cond_false, fig_a r1 f1.1 f1.2, fig_a r2 f2.1 f2.2, fig_a r4 f4.1 f4.2, fig_a r5 f5.1 f5.2, fig_a r7 f7.1 f7.2, fig_a r8 f8.1 f8.2, fig_a r10 f10.1 f10.2, fig_a r11 f11.1 f11.2,
      sgn_a r0 e0 (.inl (by decide)), sgn_a r3 e3 (.inl (by decide)), sgn_a r6 e6 (.inl (by decide)), sgn_a r9 e9 (.inr (by decide)), Bool.and_self] at hp
    cases hp
  · simpa using q
theorem head_false {c : Nat} {t : List Nat} (hl : (c :: t).length = 12) (hc : c ≠ 45) : tailOk (c :: t) = false := by
  by_cases q : tailOk (c :: t) = true
  · exfalso
    obtain ⟨t0, t1, t2, t3, t4, t5, t6, t7, t8, t9, t10, t11, e⟩ := len12 hl
    rw [e] at q
    have q' : (decide ([t0, t3, t6, t9] = [45, 45, 32, 58]) && onlyF [t1, t2, t4, t5, t7, t8, t10, t11]) = true := q
    rw [Bool.and_eq_true, decide_eq_true_eq] at q'
    simp only [List.cons.injEq] at q' e
    exact hc (e.1.trans q'.1.1)
  · simpa using q
theorem last_false {c : Nat} {t : List Nat} (hl : (t ++ [c]).length = 12) (hc : c < 48 ∨ 57 < c) : tailOk (t ++ [c]) = false := by
  by_cases q : tailOk (t ++ [c]) = true
  · exfalso
    have hm : (t ++ [c]).getLast? = some c := by simp
    obtain ⟨t0, t1, t2, t3, t4, t5, t6, t7, t8, t9, t10, t11, e⟩ := len12 hl
    rw [e] at q hm
    have q' : (decide ([t0, t3, t6, t9] = [45, 45, 32, 58]) && onlyF [t1, t2, t4, t5, t7, t8, t10, t11]) = true := q
    rw [Bool.and_eq_true, onlyF_iff] at q'
    have := q'.2.1 t11 (by simp)
    simp only [List.getLast?_cons_cons, List.getLast?_singleton, Option.some.injEq] at hm
    omega
  · simpa using q
/-! the spoilt parts -/
def numO (k : Nat) (out : List Nat) : List Nat := ([out, [57, 57], [55], [48, 48, 55], [120, 49], [32, 55], [45, 49], [], [49, 46], [55, 32], [43, 55]] : List (List Nat)).getD k []
def sgnO (a k : Nat) : List Nat := (if a = 5 then [[84], [], [32, 32], [95]] else if a = 7 then [[46], [], [32], [58, 58]] else [[47], [], [46], [43]] : List (List Nat)).getD k []
def outN (last a k : Nat) : Nat := if a = 2 then (if k = 0 then 13 else 0) else if a = 4 then (if k = 0 then last + 1 else 0) else if a = 6 then (if k = 0 then 24 else 60) else if k = 0 then 60 else 61
def optO (a c : Nat) : Nat := if a % 2 = 1 then c % 4 else c / 2 % 11
def optT (last a c : Nat) : List Nat := if a % 2 = 1 then sgnO a (c % 4) else numO (c / 2 % 11) (two (outN last a (c % 2)))
def optA (a o : Nat) : List Nat := if a % 2 = 1 then sgnO a o else numO o [200, 200]
def tlP (m d h mi : Nat) : List (List Nat) := [[45], two m, [45], two d, [32], two h, [58], two mi]
def tlA : List (List Nat) := [[45], [200, 200], [45], [200, 200], [32], [200, 200], [58], [200, 200]]
theorem two_rf {n : Nat} (h : n < 100) : RfL [200, 200] (two n) := .cons (.inr ⟨rfl, by omega, by omega⟩) (.cons (.inr ⟨rfl, by omega, by omega⟩) .nil)
theorem tl_rf {m d h mi : Nat} (h1 : m < 100) (h2 : d < 100) (h3 : h < 100) (h4 : mi < 100) : RfP tlA (tlP m d h mi) :=
  .cons (.refl _) (.cons (two_rf h1) (.cons (.refl _) (.cons (two_rf h2) (.cons (.refl _) (.cons (two_rf h3) (.cons (.refl _) (.cons (two_rf h4) .nil)))))))
theorem numO_rf {k : Nat} {out : List Nat} (h : RfL [200, 200] out) : RfL (numO k [200, 200]) (numO k out) := by
  unfold numO
  by_cases hk : k = 0
  · subst hk
    exact h
  · obtain ⟨k, rfl⟩ : ∃ j, k = j + 1 := ⟨k - 1, by omega⟩
    exact RfL.refl _
theorem outN_lt {last a k : Nat} (h : last ≤ 31) : outN last a k < 100 := by
  unfold outN
  repeat' split
  all_goals omega
theorem opt_rf {last a c : Nat} (h : last ≤ 31) : RfL (optA a (optO a c)) (optT last a c) := by
  unfold optA optO optT
  split
  · exact RfL.refl _
  · exact numO_rf (two_rf (outN_lt h))
theorem optO_lt (a c : Nat) : optO a c < if a % 2 = 1 then 4 else 11 := by
  unfold optO
  split <;> omega
def chk1 (a o : Nat) : Bool :=
  let A := (tlA.set (a - 1) (optA a o)).flatten
  if 12 < A.length then !patOk patB patP (A.drop (A.length - 12)) else if A.length = 12 then !patOk patB patP A || (decide (a % 2 = 0) && decide (o ≤ 1)) else if A.length = 11 then true else decide (A.length = 10) && !patOk (patB.drop 2) (patP.drop 2) A
def chk2 (a o b q : Nat) : Bool :=
  let A := ((tlA.set (a - 1) (optA a o)).set (b - 1) (optA b q)).flatten
  if 12 < A.length then !patOk patB patP (A.drop (A.length - 12)) else if A.length = 12 then !patOk patB patP A || (decide (a % 2 = 0 ∧ b % 2 = 0) && decide (o ≤ 1 ∧ q ≤ 1)) else true
theorem chk1_all : ((List.range 8).all fun a => (List.range (if (a + 1) % 2 = 1 then 4 else 11)).all fun o => chk1 (a + 1) o) = true := by decide +kernel
theorem chk2_all : ((List.range 8).all fun a => (List.range (if (a + 1) % 2 = 1 then 4 else 11)).all fun o => (List.range 8).all fun b => (List.range (if (b + 1) % 2 = 1 then 4 else 11)).all fun q => decide (a = b) || chk2 (a + 1) o (b + 1) q) = true := by decide +kernel
theorem chk1_at {a c : Nat} (h1 : 1 ≤ a) (h2 : a ≤ 8) : chk1 a (optO a c) = true := by
  have := List.all_eq_true.mp (List.all_eq_true.mp chk1_all (a - 1) (List.mem_range.mpr (by omega))) (optO a c) (List.mem_range.mpr (by rw [show a - 1 + 1 = a by omega]; exact optO_lt a c))
  rwa [show a - 1 + 1 = a by omega] at this
theorem chk2_at {a c b e : Nat} (h1 : 1 ≤ a) (h2 : a ≤ 8) (h3 : 1 ≤ b) (h4 : b ≤ 8) (hab : a ≠ b) : chk2 a (optO a c) b (optO b e) = true := by
  have := List.all_eq_true.mp (List.all_eq_true.mp (List.all_eq_true.mp (List.all_eq_true.mp chk2_all (a - 1) (List.mem_range.mpr (by omega))) (optO a c) (List.mem_range.mpr (by rw [show a - 1 + 1 = a by omega]; exact optO_lt a c))) (b - 1) (List.mem_range.mpr (by omega))) (optO b e) (List.mem_range.mpr (by rw [show b - 1 + 1 = b by omega]; exact optO_lt b e))
  rw [show a - 1 + 1 = a by omega, show b - 1 + 1 = b by omega, decide_eq_false (by omega), Bool.false_or] at this
  exact this
/-- a long tail, its signs wrong -/
theorem rd_long {C : Addr} {y A t : List Nat} (h : RfL A t) (hl : 12 ≤ t.length) (hp : patOk patB patP (A.drop (A.length - 12)) = false) : rdX C (y ++ t) = .exc C [] [] := by
  have e := h.len
  rw [← List.take_append_drop (t.length - 12) t, ← List.append_assoc]
  have h2 := h.drop (t.length - 12)
  rw [e] at h2 ⊢
  have h3 : (t.drop (A.length - 12)).length = 12 := by
    rw [List.length_drop]
    omega
  exact rd_tail h3 (tail_false h2 h3 hp)
theorem intL_parts (y : Int) : ∃ s n, intL y = s ++ numL n ∧ (s = [] ∨ s = [45]) := by
  unfold intL
  split
  · exact ⟨[45], _, rfl, .inr rfl⟩
  · exact ⟨[], _, rfl, .inl rfl⟩
/-- the year as it is, a short tail -/
theorem rd_lack {C : Addr} {y : Int} {t : List Nat} (h : t.length < 12) : rdX C (intL y ++ t) = .exc C [] [] := by
  by_cases hs : (intL y ++ t).length ≤ 12
  · exact rd_short hs
  · rw [List.length_append] at hs
    have hj : 12 - t.length < (intL y).length := by omega
    have e := (List.take_append_drop ((intL y).length - (12 - t.length)) (intL y)).symm
    obtain ⟨c, r, hc⟩ : ∃ c r, (intL y).drop ((intL y).length - (12 - t.length)) = c :: r := by
      cases z : (intL y).drop ((intL y).length - (12 - t.length)) with
      | nil =>
        have := congrArg List.length z
        rw [List.length_drop, List.length_nil] at this
        omega
      | cons c r => exact ⟨c, r, rfl⟩
    have hm : c ∈ (intL y).drop 1 := by
      have : c ∈ (intL y).drop ((intL y).length - (12 - t.length)) := by rw [hc]; exact List.mem_cons_self
      rw [show (intL y).length - (12 - t.length) = 1 + ((intL y).length - (12 - t.length) - 1) by omega, ← List.drop_drop] at this
      exact List.mem_of_mem_drop this
    have hcl : (c :: r ++ t).length = 12 := by
      have := congrArg List.length hc
      rw [List.length_drop] at this
      rw [List.length_append, ← this]
      omega
    rw [e, hc, List.append_assoc]
    exact rd_tail hcl (head_false hcl (by have := intL_signs c hm; omega))
theorem yr_last {y : Int} {k : Nat} (hk : k < 10) : (yrO y k).getLast? ≠ some 45 := by
  have hi : ∀ l : List Nat, (l ++ intL y).getLast? ≠ some 45 := fun l => by
    obtain ⟨s, n, e, _⟩ := intL_parts y
    rw [e, ← List.append_assoc, List.getLast?_append]
    cases z : (numL n).getLast? with
    | none => exact absurd (List.getLast?_eq_none_iff.mp z) (numL_ne n)
    | some c =>
      have := numL_digits n c (List.mem_of_getLast? z)
      simp
      omega
  rcases ten_cases hk with rfl | rfl | rfl | rfl | rfl | rfl | rfl | rfl | rfl | rfl
  · exact hi [48]
  · exact hi [43]
  · show ([45, 48] : List Nat).getLast? ≠ _
    decide
  · show ([] : List Nat).getLast? ≠ _
    decide
  · show ([120] : List Nat).getLast? ≠ _
    decide
  · show (intL y ++ [32]).getLast? ≠ _
    simp
  · show (List.replicate 51 49).getLast? ≠ _
    decide
  · show ([45] ++ List.replicate 51 49).getLast? ≠ _
    decide
  · show ([50, 48, 50, 52, 46] : List Nat).getLast? ≠ _
    decide
  · show ([50, 95, 48, 50, 52] : List Nat).getLast? ≠ _
    decide
/-- the year spoilt, the tail whole or spoilt once -/
theorem rd_yr {C : Addr} {y : Int} {k a c last m d h mi : Nat} (hk : k < 10) (h1 : 1 ≤ a) (h2 : a ≤ 8) (hl : last ≤ 31) (hm : m < 100) (hd : d < 100) (hh : h < 100) (hi : mi < 100) : rdX C (yrO y k ++ ((tlP m d h mi).set (a - 1) (optT last a c)).flatten) = .exc C [] [] := by
  have r := ((tl_rf hm hd hh hi).set (a - 1) (opt_rf (a := a) (c := c) hl)).flat
  have ck := chk1_at (c := c) h1 h2
  unfold chk1 at ck
  generalize ((tlP m d h mi).set (a - 1) (optT last a c)).flatten = t at *
  simp only at ck
  generalize (tlA.set (a - 1) (optA a (optO a c))).flatten = A at *
  have e := r.len
  have yl := yr_last (y := y) hk
  have yn := yr_none (y := y) hk
  generalize yrO y k = Y at *
  split at ck
  · exact rd_long r (by omega) (by simpa using ck)
  · split at ck
    · exact rd_year (by omega) yn
    · split at ck
      · rename_i q
        by_cases hY : Y = []
        · rw [hY, List.nil_append]
          exact rd_short (by omega)
        · rw [← List.dropLast_concat_getLast hY, List.append_assoc]
          refine rd_tail (by simp; omega) (head_false (by simp; omega) fun z => yl ?_)
          rw [← z, List.getLast?_eq_some_getLast hY]
      · rw [Bool.and_eq_true, decide_eq_true_eq] at ck
        obtain ⟨q1, q2⟩ := ck
        by_cases hY : Y.length ≤ 2
        · exact rd_short (by rw [List.length_append]; omega)
        · have e2 := (List.take_append_drop (Y.length - 2) Y).symm
          have l2 : (Y.drop (Y.length - 2)).length = 2 := by
            rw [List.length_drop]
            omega
          rw [e2, List.append_assoc]
          generalize Y.drop (Y.length - 2) = z at *
          match z, l2 with
          | [x1, x2], _ =>
            have hz : ([x1, x2] ++ t).length = 12 := by simp; omega
            refine rd_tail hz (tail_false ((RfL.refl [x1, x2]).app r) hz ?_)
            have : patOk (patB.drop 2) (patP.drop 2) A = false := by simpa using q2
            simp only [patB, patP, List.drop_succ_cons, List.drop_zero] at this
            simp only [patB, patP, List.cons_append, List.nil_append, patOk, this, Bool.and_false]
/-- figures right, a number out of bounds -/
theorem rd_out {C : Addr} {y : Int} {m d h mi : Nat} (hm : m < 100) (hd : d < 100) (hh : h < 100) (hi : mi < 100) (hb : ¬((1 ≤ (m : Int) ∧ (m : Int) ≤ 12) ∧ 1 ≤ (d : Int) ∧ (d : Int) ≤ lastOf y m) ∨ ¬((0 ≤ (h : Int) ∧ (h : Int) ≤ 23) ∧ 0 ≤ (mi : Int) ∧ (mi : Int) ≤ 59)) : rdX C (intL y ++ (tlP m d h mi).flatten) = .exc C [] [] := by
  show readR C _ (intL y ++ (tlP m d h mi).flatten) = _
  rw [read_app rfl (intL_ne y)]
  have f' : onlyF [48 + m / 10, 48 + m % 10, 48 + d / 10, 48 + d % 10, 48 + h / 10, 48 + h % 10, 48 + mi / 10, 48 + mi % 10] = true := onlyF_iff.mpr ⟨fun c hc => by
    simp only [List.mem_cons, List.not_mem_nil, or_false] at hc
    omega, by simp⟩
  show (if (!decide (([45, 45, 32, 58] : List Nat) = [45, 45, 32, 58]) || !onlyF [48 + m / 10, 48 + m % 10, 48 + d / 10, 48 + d % 10, 48 + h / 10, 48 + h % 10, 48 + mi / 10, 48 + mi % 10]) = true then Ro.exc C [] [] else match yearM (intL y) with
    | none => Ro.exc C [] []
    | some yy => if (1 ≤ (digitsVal (two m) : Int) ∧ (digitsVal (two m) : Int) ≤ 12) ∧ 1 ≤ (digitsVal (two d) : Int) ∧ (digitsVal (two d) : Int) ≤ lastOf yy (digitsVal (two m)) then
        (if (0 ≤ (digitsVal (two h) : Int) ∧ (digitsVal (two h) : Int) ≤ 23) ∧ 0 ≤ (digitsVal (two mi) : Int) ∧ (digitsVal (two mi) : Int) ≤ 59 then _ else _) else _) = _
  rw [if_neg (by rw [f']; decide), year_int, two_val hm, two_val hd, two_val hh, two_val hi]
  by_cases q : y.natAbs < 10 ^ 50
  · rw [if_pos q]
    simp only
    rcases hb with hb | hb
    · rw [if_neg hb]
    · rw [if_neg hb]
      split <;> rfl
  · rw [if_neg q]
def badN (last a c : Nat) : Nat := if c / 2 % 11 = 0 then outN last a (c % 2) else 99
theorem opt_two {last a c : Nat} (h1 : a % 2 = 0) (h2 : optO a c ≤ 1) : optT last a c = two (badN last a c) := by
  unfold optO at h2
  rw [if_neg (by omega)] at h2
  unfold optT badN
  rw [if_neg (by omega)]
  have : c / 2 % 11 = 0 ∨ c / 2 % 11 = 1 := by omega
  rcases this with e | e
  · rw [e, if_pos rfl]
    rfl
  · rw [e, if_neg (by decide)]
    rfl
theorem badN_m (last c : Nat) : badN last 2 c = 13 ∨ badN last 2 c = 0 ∨ badN last 2 c = 99 := by
  unfold badN outN
  repeat' split
  all_goals omega
theorem badN_d (last c : Nat) : badN last 4 c = last + 1 ∨ badN last 4 c = 0 ∨ badN last 4 c = 99 := by
  unfold badN outN
  repeat' split
  all_goals omega
theorem badN_h (last c : Nat) : badN last 6 c = 24 ∨ badN last 6 c = 60 ∨ badN last 6 c = 99 := by
  unfold badN outN
  repeat' split
  all_goals omega
theorem badN_i (last c : Nat) : badN last 8 c = 60 ∨ badN last 8 c = 61 ∨ badN last 8 c = 99 := by
  unfold badN outN
  repeat' split
  all_goals omega
theorem bd_m (last c : Nat) : badN last 2 c < 100 ∧ ¬(1 ≤ (badN last 2 c : Int) ∧ (badN last 2 c : Int) ≤ 12) := by
  have := badN_m last c
  omega
theorem bd_d {last : Nat} (h : last ≤ 31) (c : Nat) : badN last 4 c < 100 ∧ ¬(1 ≤ (badN last 4 c : Int) ∧ (badN last 4 c : Int) ≤ (last : Int)) := by
  have := badN_d last c
  omega
theorem bd_h (last c : Nat) : badN last 6 c < 100 ∧ ¬(0 ≤ (badN last 6 c : Int) ∧ (badN last 6 c : Int) ≤ 23) := by
  have := badN_h last c
  omega
theorem bd_i (last c : Nat) : badN last 8 c < 100 ∧ ¬(0 ≤ (badN last 8 c : Int) ∧ (badN last 8 c : Int) ≤ 59) := by
  have := badN_i last c
  omega
section
variable {C : Addr} {y : Int} {m d h mi last a b c e : Nat}
theorem rd_i1 (hm : m < 100) (hd : d < 100) (hh : h < 100) (hi : mi < 100) (hl : lastOf y m = (last : Int) ∧ last ≤ 31) (h1 : 1 ≤ a) (h2 : a ≤ 8) : rdX C (intL y ++ ((tlP m d h mi).set (a - 1) (optT last a c)).flatten) = .exc C [] [] := by
  have r := ((tl_rf hm hd hh hi).set (a - 1) (opt_rf (a := a) (c := c) hl.2)).flat
  have ck := chk1_at (c := c) h1 h2
  unfold chk1 at ck
  simp only at ck
  have er := r.len
  by_cases q : a % 2 = 0 ∧ optO a c ≤ 1
  · rw [opt_two q.1 q.2]
    have M := bd_m last c
    have Dd := bd_d hl.2 c
    have Hh := bd_h last c
    have I := bd_i last c
    have : a = 2 ∨ a = 4 ∨ a = 6 ∨ a = 8 := by omega
    rcases this with rfl | rfl | rfl | rfl
    · exact rd_out (m := badN last 2 c) M.1 hd hh hi (.inl fun z => M.2 z.1)
    · exact rd_out (d := badN last 4 c) hm Dd.1 hh hi (.inl fun z => Dd.2 (hl.1 ▸ z.2))
    · exact rd_out (h := badN last 6 c) hm hd Hh.1 hi (.inr fun z => Hh.2 z.1)
    · exact rd_out (mi := badN last 8 c) hm hd hh I.1 (.inr fun z => I.2 z.2)
  · generalize ((tlP m d h mi).set (a - 1) (optT last a c)).flatten = t at *
    generalize (tlA.set (a - 1) (optA a (optO a c))).flatten = A at *
    by_cases z : A.length < 12
    · exact rd_lack (by omega)
    · refine rd_long r (by omega) ?_
      split at ck
      · simpa using ck
      · rw [if_pos (by omega)] at ck
        rw [show A.length - 12 = 0 by omega, List.drop_zero]
        rw [Bool.or_eq_true, Bool.and_eq_true, decide_eq_true_eq, decide_eq_true_eq] at ck
        rcases ck with ck | ck
        · simpa using ck
        · exact absurd ck q
theorem rd_i2 (hm : m < 100) (hd : d < 100) (hh : h < 100) (hi : mi < 100) (hl : lastOf y m = (last : Int) ∧ last ≤ 31) (h1 : 1 ≤ a) (h2 : a ≤ 8) (h3 : 1 ≤ b) (h4 : b ≤ 8) (hab : a ≠ b) : rdX C (intL y ++ (((tlP m d h mi).set (a - 1) (optT last a c)).set (b - 1) (optT last b e)).flatten) = .exc C [] [] := by
  have r := (((tl_rf hm hd hh hi).set (a - 1) (opt_rf (a := a) (c := c) hl.2)).set (b - 1) (opt_rf (a := b) (c := e) hl.2)).flat
  have ck := chk2_at (c := c) (e := e) h1 h2 h3 h4 hab
  unfold chk2 at ck
  simp only at ck
  have er := r.len
  by_cases q : (a % 2 = 0 ∧ b % 2 = 0) ∧ optO a c ≤ 1 ∧ optO b e ≤ 1
  · obtain ⟨⟨q1, q2⟩, q3, q4⟩ := q
    rw [opt_two q1 q3, opt_two q2 q4]
    have M := bd_m last
    have Dd := bd_d hl.2
    have Hh := bd_h last
    have I := bd_i last
    have c1 : a = 2 ∨ a = 4 ∨ a = 6 ∨ a = 8 := by clear ck; omega
    have c2 : b = 2 ∨ b = 4 ∨ b = 6 ∨ b = 8 := by clear ck; omega
    clear ck r er
    rcases c1 with rfl | rfl | rfl | rfl <;> rcases c2 with rfl | rfl | rfl | rfl
    · exact absurd rfl hab
    · exact rd_out (m := badN last 2 c) (d := badN last 4 e) (M c).1 (Dd e).1 hh hi (.inl fun z => (M c).2 z.1)
    · exact rd_out (m := badN last 2 c) (h := badN last 6 e) (M c).1 hd (Hh e).1 hi (.inl fun z => (M c).2 z.1)
    · exact rd_out (m := badN last 2 c) (mi := badN last 8 e) (M c).1 hd hh (I e).1 (.inl fun z => (M c).2 z.1)
    · exact rd_out (d := badN last 4 c) (m := badN last 2 e) (M e).1 (Dd c).1 hh hi (.inl fun z => (M e).2 z.1)
    · exact absurd rfl hab
    · exact rd_out (d := badN last 4 c) (h := badN last 6 e) hm (Dd c).1 (Hh e).1 hi (.inl fun z => (Dd c).2 (hl.1 ▸ z.2))
    · exact rd_out (d := badN last 4 c) (mi := badN last 8 e) hm (Dd c).1 hh (I e).1 (.inl fun z => (Dd c).2 (hl.1 ▸ z.2))
    · exact rd_out (h := badN last 6 c) (m := badN last 2 e) (M e).1 hd (Hh c).1 hi (.inl fun z => (M e).2 z.1)
    · exact rd_out (h := badN last 6 c) (d := badN last 4 e) hm (Dd e).1 (Hh c).1 hi (.inl fun z => (Dd e).2 (hl.1 ▸ z.2))
    · exact absurd rfl hab
    · exact rd_out (h := badN last 6 c) (mi := badN last 8 e) hm hd (Hh c).1 (I e).1 (.inr fun z => (Hh c).2 z.1)
    · exact rd_out (mi := badN last 8 c) (m := badN last 2 e) (M e).1 hd hh (I c).1 (.inl fun z => (M e).2 z.1)
    · exact rd_out (mi := badN last 8 c) (d := badN last 4 e) hm (Dd e).1 hh (I c).1 (.inl fun z => (Dd e).2 (hl.1 ▸ z.2))
    · exact rd_out (mi := badN last 8 c) (h := badN last 6 e) hm hd (Hh e).1 (I c).1 (.inr fun z => (I c).2 z.2)
    · exact absurd rfl hab
  · generalize (((tlP m d h mi).set (a - 1) (optT last a c)).set (b - 1) (optT last b e)).flatten = t at *
    generalize ((tlA.set (a - 1) (optA a (optO a c))).set (b - 1) (optA b (optO b e))).flatten = A at *
    by_cases z : A.length < 12
    · exact rd_lack (by omega)
    · refine rd_long r (by omega) ?_
      split at ck
      · simpa using ck
      · rw [if_pos (by omega)] at ck
        rw [show A.length - 12 = 0 by omega, List.drop_zero]
        rw [Bool.or_eq_true, Bool.and_eq_true, decide_eq_true_eq, decide_eq_true_eq] at ck
        rcases ck with ck | ck
        · simpa using ck
        · exact absurd ck q
/-- the parts, some spoilt -/
def prts (y : Int) (m d h mi : Nat) : List (List Nat) := intL y :: tlP m d h mi
def badT (y : Int) (last a c : Nat) : List Nat := if a = 0 then yrO y (c % 10) else optT last a c
theorem bad_one (hm : m < 100) (hd : d < 100) (hh : h < 100) (hi : mi < 100) (hl : lastOf y m = (last : Int) ∧ last ≤ 31) (ha : a < 9) : rdX C ((prts y m d h mi).set a (badT y last a c)).flatten = .exc C [] [] := by
  cases a with
  | zero =>
    show rdX C (yrO y (c % 10) ++ (tlP m d h mi).flatten) = _
    exact rd_year rfl (yr_none (Nat.mod_lt _ (by decide)))
  | succ a =>
    show rdX C (intL y ++ ((tlP m d h mi).set a (badT y last (a + 1) c)).flatten) = _
    rw [show badT y last (a + 1) c = optT last (a + 1) c from if_neg (by omega)]
    have := rd_i1 (C := C) (a := a + 1) (c := c) hm hd hh hi hl (by omega) (by omega)
    rwa [Nat.add_sub_cancel] at this
theorem bad_two (hm : m < 100) (hd : d < 100) (hh : h < 100) (hi : mi < 100) (hl : lastOf y m = (last : Int) ∧ last ≤ 31) (ha : a < 9) (hb : b < 9) (hab : a ≠ b) : rdX C (((prts y m d h mi).set a (badT y last a c)).set b (badT y last b e)).flatten = .exc C [] [] := by
  have yr : ∀ (a c e : Nat), a + 1 < 9 → rdX C (yrO y (e % 10) ++ ((tlP m d h mi).set a (badT y last (a + 1) c)).flatten) = .exc C [] [] := fun a c e ha => by
    rw [show badT y last (a + 1) c = optT last (a + 1) c from if_neg (by omega)]
    have := rd_yr (C := C) (y := y) (k := e % 10) (a := a + 1) (c := c) (Nat.mod_lt _ (by decide)) (by omega) (by omega) hl.2 hm hd hh hi
    rwa [Nat.add_sub_cancel] at this
  cases a with
  | zero =>
    cases b with
    | zero => exact absurd rfl hab
    | succ b => exact yr b e c hb
  | succ a =>
    cases b with
    | zero => exact yr a c e ha
    | succ b =>
      show rdX C (intL y ++ (((tlP m d h mi).set a (badT y last (a + 1) c)).set b (badT y last (b + 1) e)).flatten) = _
      rw [show badT y last (a + 1) c = optT last (a + 1) c from if_neg (by omega), show badT y last (b + 1) e = optT last (b + 1) e from if_neg (by omega)]
      have := rd_i2 (C := C) (a := a + 1) (c := c) (b := b + 1) (e := e) hm hd hh hi hl (by omega) (by omega) (by omega) (by omega) hab
      rwa [Nat.add_sub_cancel, Nat.add_sub_cancel] at this
/-! the whole text spoilt -/
theorem tl_len : (tlP m d h mi).flatten.length = 12 := rfl
def wholeO (x : List Nat) (k : Nat) : List Nat := ([[32] ++ x, x ++ [32], x ++ [90], x.dropLast, (x.drop 1).take 1 ++ [32] ++ x, [45] ++ x ++ [45], [], x ++ [10], [10] ++ x, x ++ [9]] : List (List Nat)).getD k []
theorem rd_behind {Y t : List Nat} {c : Nat} (ht : t.length = 12) (hc : c < 48 ∨ 57 < c) : rdX C (Y ++ t ++ [c]) = .exc C [] [] := by
  match t, ht with
  | x :: r, ht =>
    rw [show Y ++ (x :: r) ++ [c] = (Y ++ [x]) ++ (r ++ [c]) by simp]
    have : (r ++ [c]).length = 12 := by simpa using ht
    exact rd_tail this (last_false this hc)
theorem bad_whole {k : Nat} (hk : k < 10) : rdX C (wholeO ((prts y m d h mi).flatten) k) = .exc C [] [] := by
  show rdX C (wholeO (intL y ++ (tlP m d h mi).flatten) k) = _
  have ht := tl_len (m := m) (d := d) (h := h) (mi := mi)
  generalize (tlP m d h mi).flatten = t at ht ⊢
  rcases ten_cases hk with rfl | rfl | rfl | rfl | rfl | rfl | rfl | rfl | rfl | rfl
  · show rdX C ([32] ++ (intL y ++ t)) = _
    rw [← List.append_assoc]
    exact rd_year ht (year_odd (c := 32) (by simp) (by decide) (.inl (by decide)))
  · exact rd_behind ht (.inl (by decide))
  · exact rd_behind ht (.inr (by decide))
  · show rdX C ((intL y ++ t).dropLast) = _
    rw [List.dropLast_append_of_ne_nil (by intro z; rw [z] at ht; cases ht)]
    exact rd_lack (by rw [List.length_dropLast]; omega)
  · show rdX C (((intL y ++ t).drop 1).take 1 ++ [32] ++ (intL y ++ t)) = _
    rw [← List.append_assoc]
    exact rd_year ht (year_odd (c := 32) (by simp) (by decide) (.inl (by decide)))
  · show rdX C ([45] ++ (intL y ++ t) ++ [45]) = _
    rw [← List.append_assoc]
    exact rd_behind ht (.inl (by decide))
  · exact rd_short (by show ([] : List Nat).length ≤ 12; decide)
  · exact rd_behind ht (.inl (by decide))
  · show rdX C ([10] ++ (intL y ++ t)) = _
    rw [← List.append_assoc]
    exact rd_year ht (year_odd (c := 10) (by simp) (by decide) (.inl (by decide)))
  · exact rd_behind ht (.inl (by decide))
end
end Mom
/-! dicts that are written out (keys whole numbers), read by a key -/
namespace PL
open PySem PySem.Spec L2
open Evl (Ex)
section
variable {X : Cx} {P : Program} {w : World} {K : PySem.W.Frag} {mg : Str → Option Value} {base : Heap} {k k' n : Nat} {N : List Str} {nk : List (Str × NameKind)} {W : WX}
variable {ρ : List E} {a b : Expr} {d : D} {ds : List D} {pos : Pos}
abbrev prT (K : PySem.W.Frag) (ρ : List E) (kds : List (Int × D)) : List (TE × TE) := kds.map fun q => (tD K ρ (.int q.1), tD K ρ q.2)
theorem prs_reads : ∀ (kds : List (Int × D)) (σ : L2.St) (H : Hp) (Q : List (V × V) → Hp → Prop),
    (∃ Bv Bs Hv, Sg K Bv Bs Hv H ρ σ ∧ ∀ vs H' Hv', Sg K Bv Bs Hv' H' ρ σ → Vx Hv H Hv' H' → RpL K Hv' (kds.map (·.2)) vs → Q ((kds.map fun q => V.int q.1).zip vs) H') → tPairs (prT K ρ kds) σ H Q
  | [], σ, H, Q, ⟨Bv, Bs, Hv, g, h⟩ => h [] H Hv g (Vx.refl g.vx.vh) rpL_nil
  | (i, d) :: kds, σ, H, Q, ⟨Bv, Bs, Hv, g, h⟩ => by
    refine ⟨Bv, Bs, Hv, g, fun v1 H1 Hv1 g1 e1 r1 => ⟨Bv, Bs, Hv1, g1, fun v2 H2 Hv2 g2 e2 r2 => ?_⟩⟩
    have := rp_v r1
    subst this
    refine prs_reads kds σ H2 _ ⟨Bv, Bs, Hv2, g2, fun vs H3 Hv3 g3 e3 r3 => ?_⟩
    exact h (v2 :: vs) H3 Hv3 g3 ((e1.trans e2).trans e3) (rpL_cons (rp_mono e3.vv r2) r3)
theorem zip_kV : ∀ (ks : List Int) (vs : List V), (ks.map V.int).zip vs = ((ks.map Sum.inl : List Key).zip vs).map fun kv => (kV kv.1, kv.2)
  | [], vs => rfl
  | k :: ks, [] => rfl
  | k :: ks, v :: vs => by
    rw [List.map_cons, List.map_cons, List.zip_cons_cons, List.zip_cons_cons, List.map_cons, zip_kV ks vs]
    rfl
/-- {i: d, ..} -/
theorem x_dct {keys : List (Option Expr)} {values : List Expr} (kds : List (Int × D)) (h : PPs X pos keys values (prT X.K ρ kds)) (hm : ∀ vs : List V, vs.length = kds.length → mergeK [] ((kds.map fun q => (Sum.inl q.1 : Key)).zip vs) = (kds.map fun q => (Sum.inl q.1 : Key)).zip vs) (h0 : keys ≠ [] := by simp) (h15 : keys.length ≤ 15 := by decide) (hk : kds.length ≤ 15 := by exact Nat.le_of_ble_eq_true rfl)
    (hall : keys.all (·.isSome) = true := by rfl) (hl : keys.length = values.length := by rfl) : XE X ρ (.Dict keys values pos) (.dct (kds.map fun q => .inl q.1) (kds.map (·.2))) :=
  PE.imp (pe_disp h hall hl h0 h15) fun σ H Q ⟨Bv, Bs, Hv, g, kk⟩ => fun p hp => by
    have hpv : Hv p = none := Evl.fresh_back g.vx.vh hp
    refine prs_reads kds σ _ _ ⟨Bv, Bs, Hv, g.go (Vx.newH g.vx.vh hp), fun vs H2 Hv2 g2 e2 r2 => ?_⟩
    have hp2 : H2 p = some (.dK []) := e2.hh _ _ upd_same
    have hlen : vs.length = kds.length := by rw [rpL_len r2, List.length_map]
    have hv2 : Hv2 p = none := by
      cases z : Hv2 p with
      | none => rfl
      | some o =>
        rcases e2.fr p o z with q | q
        · rw [hpv] at q
          cases q
        · rw [upd_same] at q
          cases q
    refine ⟨hp2, (kds.map fun q => (Sum.inl q.1 : Key)).zip vs, ?_, ?_, ?_⟩
    · rw [show (kds.map fun q => V.int q.1) = (kds.map (·.1)).map V.int by rw [List.map_map]; rfl, zip_kV, List.map_map]
      rfl
    · rw [List.length_zip, List.length_map]
      omega
    · rw [hm vs hlen]
      have x1 : Vx Hv H (upd Hv2 p (.dK ((kds.map fun q => (Sum.inl q.1 : Key)).zip vs))) (upd H2 p (.dK ((kds.map fun q => (Sum.inl q.1 : Key)).zip vs))) := by
        refine ⟨e2.vv.trans (Ex.new hv2), fun b o z => ?_, fun b o z => ?_, fun b o z => ?_⟩
        · have nb : b ≠ p := fun q => by
            rw [q, hp] at z
            cases z
          rw [upd_ne nb]
          exact e2.hh b o (by rw [upd_ne nb]; exact z)
        · by_cases nb : b = p
          · subst nb
            rw [upd_same] at z ⊢
            exact z
          · rw [upd_ne nb] at z ⊢
            exact g2.vx.vh b o z
        · by_cases nb : b = p
          · subst nb
            exact .inr hp
          · rw [upd_ne nb] at z
            rcases e2.fr b o z with q | q
            · exact .inl q
            · rw [upd_ne nb] at q
              exact .inr q
      refine kk _ _ _ (g.go x1) x1 ?_
      unfold Rp
      exact ⟨p, vs, rfl, upd_same, by rw [List.length_map, hlen], rpL_mono (Ex.new hv2) r2⟩
/-- d[i] -/
theorem x_dget {ks : List Key} {l : List D} {i : Int} (B : Bx X P w K mg base k N nk) (j : Nat) (ha : XE X ρ a (.dct ks l)) (hb : XE X ρ b (.int i)) (hv : ∀ xs : List V, ks.length = xs.length → valV (ks.zip xs) (.inl i) = xs[j]?) (hd : l[j]? = some d) (hs : NoSl b := by exact fun _ _ => rfl) : XE X ρ (.Subscript a b pos) d :=
  PE.imp (pe_dget (hu_of B.room) ha hb hs) fun σ H Q ⟨Bv, Bs, Hv, g, kk⟩ => ⟨Bv, Bs, Hv, g, fun v1 H1 Hv1 g1 e1 r1 => ⟨Bv, Bs, Hv1, g1, fun v2 H2 Hv2 g2 e2 r2 => by
    have r1' := rp_mono e2.vv r1
    unfold Rp at r1'
    obtain ⟨q, xs, rfl, h1, h2, h3⟩ := r1'
    obtain ⟨v, h4, h5⟩ := rpL_get h3 hd
    have := rp_v r2
    subst this
    exact ⟨q, v, rfl, .inl ⟨ks.zip xs, .inl i, .inl (g2.vx.vh _ _ h1), rfl, by rw [hv xs h2, h4]⟩, kk v H2 Hv2 g2 (e1.trans e2) h5⟩⟩⟩
end
end PL
/-! sorted(set(a list of whole numbers)) -/
namespace PL
open PySem PySem.Spec PyProof.Rows L2
open Evl (Ex)
abbrev nwSet (w : World) : Obj := { cls := .type "set", dict := none, data := .set #[] 0 (.fresh 0 0 (!w.params.followText "set-order")) }
section
variable {P : Program} {w : World} {A : Around} {E : Value → Shared → Prop} {s : Shared}
/-- the state with the new set -/
abbrev stS (w : World) (s : Shared) : Shared := { s with heap := s.heap.push (nwSet w) }
abbrev EndS (w : World) (s : Shared) (ns : List Int) (r : Value) (z : Shared) : Prop := r = .none ∧ ∃ g k c, z = { s with heap := g, toks := k } ∧ SetR w g s.heap.objs.size (fun j => decide (j ∈ ns)) c ∧ c ≤ ns.length ∧ ∀ b o, s.heap.get? b = some o → g.get? b = some o
end
section
variable {X : Cx}
end
section
variable {X : Cx} {P : Program} {w : World} {K : PySem.W.Frag} {mg : Str → Option Value} {base : Heap} {k k' n : Nat} {N : List Str} {nk : List (Str × NameKind)} {W : WX}
variable {ρ : List E} {e a b c tg : Expr} {pos p p' pos2 p2 : Pos}
end
end PL
/-! lists of objects: told with their very items; back to front -/
namespace PL
open PySem PySem.Spec L2 PyProof.Rows
open Evl (Ex)
section
variable {K : PySem.W.Frag} {H : Hp}
end
section
variable {X : Cx} {P : Program} {w : World} {K : PySem.W.Frag} {mg : Str → Option Value} {base : Heap} {k k' n : Nat} {N : List Str} {nk : List (Str × NameKind)} {W : WX}
variable {ρ ρ' ρ1 ρ2 : List E} {e a b c tg : Expr} {es : List Expr} {d f : D} {ds l m : List D} {pos p p' p2 : Pos} {s : Str} {o o1 : Out} {kd : NameKind} {φ : List D → Ro} {body sts other more : List Stmt} {st : Stmt} {Bo : Bool} {us : List V} {te : TE} {tk : TO} {sx : Expr}
/-! xs[::-1] -/
end
end PL
/-! long lists' numbers each once; defs handed on as values -/
namespace PL
open PySem PySem.Spec PyProof.Rows L2
open Evl (Ex)
section
variable {X : Cx}
end
section
variable {X : Cx} {P : Program} {w : World} {K : PySem.W.Frag} {mg : Str → Option Value} {base : Heap} {k k' n : Nat} {N : List Str} {nk : List (Str × NameKind)} {W : WX} {kd : NameKind} {s : Str} {φ : List D → Ro} {d : D} {ds l : List D} {es : List Expr}
variable {ρ : List E} {e a b c tg : Expr} {pos p p' pos2 p2 : Pos}
/-- a def's value -/
structure FnA (P : Program) (w : World) (K : PySem.W.Frag) (mg : Str → Option Value) (base : Heap) (u : Addr) (k n : Nat) (φ : List D → Ro) : Prop where
  ex : ∃ fd ps, FnOk P w K mg base (L2N.CX P w) k u fd ps (spD K n φ) ∧ PySem.W.keepIn K (.ref u) = true ∧ Binds K fd ps []
theorem FnC.addr (F : FnC P w K mg base s k n φ) : ∃ u, mg s = some (.ref u) ∧ FnA P w K mg base u k n φ := by
  obtain ⟨f, fd, ps, h1, h2, h3, h4⟩ := F.ex
  exact ⟨f, h1, fd, ps, h2, h3, h4⟩
/-- the same address serves -/
theorem FnC.at (F : FnC P w K mg base s k n φ) {u : Addr} (h : mg s = some (.ref u)) : FnA P w K mg base u k n φ := by
  obtain ⟨v, h1, h2⟩ := F.addr
  rw [h1] at h
  cases h
  exact h2
end
section
variable {P : Program} {w : World} {K : PySem.W.Frag} {mg : Str → Option Value} {base : Heap}
end
end PL
/-! == of plain values of two sorts, None among them -/
namespace PL
open PySem PySem.Spec L2
open Evl (Ex)
section
variable {X : Cx} {ρ : List E} {a b : Expr} {pos : Pos} {u w : V}
end
section
variable {X : Cx} {P : Program} {w : World} {K : PySem.W.Frag} {mg : Str → Option Value} {base : Heap} {k : Nat} {N : List Str} {nk : List (Str × NameKind)} {ρ : List E} {e : Expr} {pos p : Pos}
end
section
variable {X : Cx} {W : WX} {ρ : List E} {tg : Expr} {body : List Stmt}
end
section
variable {X : Cx} {ρ : List E} {a b : Expr} {pos : Pos} {t : List Nat} {ts : List (List Nat)}
end
section
variable {X : Cx} {P : Program} {w : World} {K : PySem.W.Frag} {mg : Str → Option Value} {base : Heap} {k : Nat} {N : List Str} {nk : List (Str × NameKind)} {ρ : List E} {a b c tg : Expr} {pos p : Pos}
end
section
variable {X : Cx} {W : WX} {P : Program} {w : World} {K : PySem.W.Frag} {mg : Str → Option Value} {base : Heap} {k : Nat} {N : List Str} {nk : List (Str × NameKind)} {ρ ρ2 : List E} {a b c tg it : Expr} {body more : List Stmt} {pos p : Pos} {o o2 : Out} {ds : List D}
theorem xv_orT {v : Bool} {rest : List Expr} (h : XT X ρ a v) (hv : v = true) : XV X ρ (.BoolOp .Or (a :: b :: rest) pos) true := by
  subst hv
  exact xv_or (k := true) h fun q => nomatch q
end
section
open PyProof.Rows
variable {X : Cx} {CX : CXT} {k k' n : Nat} {f u : Addr} {sp : Sp} {E0 : XK} {fe e : Expr} {es : List Expr} {t : TA} {tf : TE} {p pos : Pos}
variable {P : Program} {w : World} {K : PySem.W.Frag} {mg : Str → Option Value} {base : Heap} {N : List Str} {nk : List (Str × NameKind)} {ρ : List E} {d : D} {ds : List D} {φ : List D → Ro}
end
end PL
namespace W18
open PySem PySem.Spec L2 PL
open Cal Mom Fld Bits TL NumText
abbrev d_FIGURES : D := .tx [48, 49, 50, 51, 52, 53, 54, 55, 56, 57]
abbrev d_LASTS : D := .tup ([.int 31, .int 28, .int 31, .int 30, .int 31, .int 30, .int 31, .int 31, .int 30, .int 31, .int 30, .int 31].map D.v)
abbrev d_DAY : D := .int 1440
abbrev d_HOUR : D := .int 60
abbrev d_MOST_FIGURES : D := .int 50
abbrev d_TAIL : D := .int 12
def topS (i : Nat) : Stmt := tpS PySem.Challenge.pw_fivefields_k18_moments_refused i
abbrev s_is_whole : Stmt := topS 12
abbrev nk_is_whole : List (Str × NameKind) := [("thing", .«local»), ("isinstance", .globalImplicit), ("int", .globalImplicit), ("bool", .globalImplicit)]
abbrev N_is_whole : List Str := ["thing"]
theorem sc_is_whole : FnScope N_is_whole ["thing"] (defScope s_is_whole) := ⟨rfl, rfl, rfl, by decide +kernel, rfl, by decide +kernel, by decide +kernel⟩
abbrev s_only_figures : Stmt := topS 13
abbrev nk_only_figures : List (Str × NameKind) := [("signs", .«local»), ("sign", .«local»), ("FIGURES", .globalImplicit)]
abbrev N_only_figures : List Str := ["signs", "sign"]
theorem sc_only_figures : FnScope N_only_figures ["signs"] (defScope s_only_figures) := ⟨rfl, rfl, rfl, by decide +kernel, rfl, by decide +kernel, by decide +kernel⟩
abbrev s_is_long : Stmt := topS 16
abbrev nk_is_long : List (Str × NameKind) := [("year", .«local»)]
abbrev N_is_long : List Str := ["year"]
theorem sc_is_long : FnScope N_is_long ["year"] (defScope s_is_long) := ⟨rfl, rfl, rfl, by decide +kernel, rfl, by decide +kernel, by decide +kernel⟩
abbrev s_days_before : Stmt := topS 17
abbrev nk_days_before : List (Str × NameKind) := [("year", .«local»)]
abbrev N_days_before : List Str := ["year"]
theorem sc_days_before : FnScope N_days_before ["year"] (defScope s_days_before) := ⟨rfl, rfl, rfl, by decide +kernel, rfl, by decide +kernel, by decide +kernel⟩
abbrev s_last_of : Stmt := topS 18
abbrev nk_last_of : List (Str × NameKind) := [("year", .«local»), ("month", .«local»), ("is_long", .globalImplicit), ("LASTS", .globalImplicit)]
abbrev N_last_of : List Str := ["year", "month"]
theorem sc_last_of : FnScope N_last_of ["year", "month"] (defScope s_last_of) := ⟨rfl, rfl, rfl, by decide +kernel, rfl, by decide +kernel, by decide +kernel⟩
abbrev s_day_of : Stmt := topS 19
abbrev nk_day_of : List (Str × NameKind) := [("year", .cell), ("month", .«local»), ("day", .«local»), ("is_whole", .globalImplicit), ("NoDay", .globalImplicit), ("last_of", .globalImplicit), ("days_before", .globalImplicit), ("sum", .globalImplicit), ("range", .globalImplicit)]
abbrev N_day_of : List Str := ["year", "month", "day", "k"]
theorem sc_day_of : FnScope N_day_of ["year", "month", "day"] (defScope s_day_of) := ⟨rfl, rfl, rfl, by decide +kernel, rfl, by decide +kernel, by decide +kernel⟩
abbrev s_moment_of : Stmt := topS 25
abbrev nk_moment_of : List (Str × NameKind) := [("day", .«local»), ("hour", .«local»), ("minute", .«local»), ("is_whole", .globalImplicit), ("NoMoment", .globalImplicit), ("DAY", .globalImplicit), ("HOUR", .globalImplicit)]
abbrev N_moment_of : List Str := ["day", "hour", "minute"]
theorem sc_moment_of : FnScope N_moment_of ["day", "hour", "minute"] (defScope s_moment_of) := ⟨rfl, rfl, rfl, by decide +kernel, rfl, by decide +kernel, by decide +kernel⟩
abbrev s_year_in : Stmt := topS 26
abbrev nk_year_in : List (Str × NameKind) := [("text", .«local»), ("figures", .«local»), ("only_figures", .globalImplicit), ("len", .globalImplicit), ("MOST_FIGURES", .globalImplicit), ("NoMoment", .globalImplicit), ("int", .globalImplicit)]
abbrev N_year_in : List Str := ["text", "figures"]
theorem sc_year_in : FnScope N_year_in ["text"] (defScope s_year_in) := ⟨rfl, rfl, rfl, by decide +kernel, rfl, by decide +kernel, by decide +kernel⟩
abbrev s_read_moment : Stmt := topS 27
abbrev nk_read_moment : List (Str × NameKind) := [("text", .«local»), ("tail", .«local»), ("figures", .«local»), ("year", .«local»), ("day", .«local»), ("isinstance", .globalImplicit), ("str", .globalImplicit), ("len", .globalImplicit), ("TAIL", .globalImplicit), ("NoMoment", .globalImplicit), ("only_figures", .globalImplicit), ("year_in", .globalImplicit), ("day_of", .globalImplicit), ("int", .globalImplicit), ("NoDay", .globalImplicit), ("moment_of", .globalImplicit)]
abbrev N_read_moment : List Str := ["text", "tail", "figures", "year", "day"]
theorem sc_read_moment : FnScope N_read_moment ["text"] (defScope s_read_moment) := ⟨rfl, rfl, rfl, by decide +kernel, rfl, by decide +kernel, by decide +kernel⟩
abbrev s_law_cell_at : Stmt := topS 29
abbrev nk_law_cell_at : List (Str × NameKind) := [("_law_script", .«local»), ("_law_k", .«local»), ("len", .globalImplicit)]
abbrev N_law_cell_at : List Str := ["_law_script", "_law_k"]
theorem sc_law_cell_at : FnScope N_law_cell_at ["_law_script", "_law_k"] (defScope s_law_cell_at) := ⟨rfl, rfl, rfl, by decide +kernel, rfl, by decide +kernel, by decide +kernel⟩
abbrev s_law_whole : Stmt := topS 30
abbrev nk_law_whole : List (Str × NameKind) := [("_law_found", .«local»), ("isinstance", .globalImplicit), ("int", .globalImplicit), ("bool", .globalImplicit)]
abbrev N_law_whole : List Str := ["_law_found"]
theorem sc_law_whole : FnScope N_law_whole ["_law_found"] (defScope s_law_whole) := ⟨rfl, rfl, rfl, by decide +kernel, rfl, by decide +kernel, by decide +kernel⟩
abbrev s_law_long : Stmt := topS 31
abbrev nk_law_long : List (Str × NameKind) := [("_law_year", .«local»)]
abbrev N_law_long : List Str := ["_law_year"]
theorem sc_law_long : FnScope N_law_long ["_law_year"] (defScope s_law_long) := ⟨rfl, rfl, rfl, by decide +kernel, rfl, by decide +kernel, by decide +kernel⟩
abbrev s_law_last : Stmt := topS 32
abbrev nk_law_last : List (Str × NameKind) := [("_law_year", .«local»), ("_law_month", .«local»), ("int", .globalImplicit), ("_law_long", .globalImplicit)]
abbrev N_law_last : List Str := ["_law_year", "_law_month"]
theorem sc_law_last : FnScope N_law_last ["_law_year", "_law_month"] (defScope s_law_last) := ⟨rfl, rfl, rfl, by decide +kernel, rfl, by decide +kernel, by decide +kernel⟩
abbrev s_law_two : Stmt := topS 33
abbrev nk_law_two : List (Str × NameKind) := [("_law_number", .«local»), ("str", .globalImplicit)]
abbrev N_law_two : List Str := ["_law_number"]
theorem sc_law_two : FnScope N_law_two ["_law_number"] (defScope s_law_two) := ⟨rfl, rfl, rfl, by decide +kernel, rfl, by decide +kernel, by decide +kernel⟩
abbrev s_law_parts : Stmt := topS 34
abbrev nk_law_parts : List (Str × NameKind) := [("_law_one", .«local»), ("_law_other", .«local»), ("_law_year", .«local»), ("_law_month", .«local»), ("_law_day", .«local»), ("_law_hour", .«local»), ("_law_minute", .«local»), ("_law_head", .«local»), ("_law_last", .globalImplicit), ("str", .globalImplicit), ("_law_two", .globalImplicit)]
abbrev N_law_parts : List Str := ["_law_one", "_law_other", "_law_year", "_law_month", "_law_day", "_law_hour", "_law_minute", "_law_head"]
theorem sc_law_parts : FnScope N_law_parts ["_law_one", "_law_other"] (defScope s_law_parts) := ⟨rfl, rfl, rfl, by decide +kernel, rfl, by decide +kernel, by decide +kernel⟩
abbrev s_law_bad_number : Stmt := topS 35
abbrev nk_law_bad_number : List (Str × NameKind) := [("_law_cell", .«local»), ("_law_out", .«local»)]
abbrev N_law_bad_number : List Str := ["_law_cell", "_law_out"]
theorem sc_law_bad_number : FnScope N_law_bad_number ["_law_cell", "_law_out"] (defScope s_law_bad_number) := ⟨rfl, rfl, rfl, by decide +kernel, rfl, by decide +kernel, by decide +kernel⟩
abbrev s_law_bad : Stmt := topS 36
abbrev nk_law_bad : List (Str × NameKind) := [("_law_parts_here", .«local»), ("_law_last_here", .«local»), ("_law_at", .«local»), ("_law_cell", .«local»), ("_law_some", .«local»), ("_law_outs", .«local»), ("max", .globalImplicit), ("str", .globalImplicit), ("_law_bad_number", .globalImplicit)]
abbrev N_law_bad : List Str := ["_law_parts_here", "_law_last_here", "_law_at", "_law_cell", "_law_some", "_law_outs"]
theorem sc_law_bad : FnScope N_law_bad ["_law_parts_here", "_law_last_here", "_law_at", "_law_cell"] (defScope s_law_bad) := ⟨rfl, rfl, rfl, by decide +kernel, rfl, by decide +kernel, by decide +kernel⟩
abbrev s_law_refused : Stmt := topS 38
abbrev nk_law_refused : List (Str × NameKind) := [("_law_thing", .«local»), ("e", .«local»), ("read_moment", .globalImplicit), ("FieldError", .globalImplicit), ("isinstance", .globalImplicit), ("NoMoment", .globalImplicit), ("ValueError", .globalImplicit), ("NoDay", .globalImplicit), ("NoField", .globalImplicit), ("NoRow", .globalImplicit), ("NoBook", .globalImplicit), ("NoClock", .globalImplicit), ("NoName", .globalImplicit), ("NoWord", .globalImplicit)]
abbrev N_law_refused : List Str := ["_law_thing", "e"]
theorem sc_law_refused : FnScope N_law_refused ["_law_thing"] (defScope s_law_refused) := ⟨rfl, rfl, rfl, by decide +kernel, rfl, by decide +kernel, by decide +kernel⟩
abbrev s_law_spoilt : Stmt := topS 37
abbrev nk_law_spoilt : List (Str × NameKind) := [("_law_parts_here", .«local»), ("_law_last_here", .«local»), ("_law_cell", .«local»), ("_law_way", .«local»), ("_law_text", .«local»), ("_law_some", .«local»), ("_law_spoilt_here", .«local»), ("_law_at", .«local»), ("_law_other", .«local»), ("list", .globalImplicit), ("_law_bad", .globalImplicit)]
abbrev N_law_spoilt : List Str := ["_law_parts_here", "_law_last_here", "_law_cell", "_law_way", "_law_text", "_law_some", "_law_spoilt_here", "_law_at", "_law_other"]
theorem sc_law_spoilt : FnScope N_law_spoilt ["_law_parts_here", "_law_last_here", "_law_cell"] (defScope s_law_spoilt) := ⟨rfl, rfl, rfl, by decide +kernel, rfl, by decide +kernel, by decide +kernel⟩
abbrev s_law : Stmt := topS 39
abbrev nk_law : List (Str × NameKind) := [("_law_script", .cell), ("_law_k", .cell), ("_law_cells", .«local»), ("_law_parts_here", .«local»), ("_law_last_here", .«local»), ("_law_text", .«local»), ("_law_there", .«local»), ("range", .globalImplicit), ("max", .globalImplicit), ("min", .globalImplicit), ("len", .globalImplicit), ("_law_parts", .globalImplicit), ("read_moment", .globalImplicit), ("_law_whole", .globalImplicit), ("_law_refused", .globalImplicit), ("_law_spoilt", .globalImplicit)]
abbrev N_law : List Str := ["_law_script", "_law_k", "_law_cells", "_law_parts_here", "_law_last_here", "_law_text", "_law_there", "_law_j"]
theorem sc_law : FnScope N_law ["_law_script"] (defScope s_law) := ⟨rfl, rfl, rfl, by decide +kernel, rfl, by decide +kernel, by decide +kernel⟩
def phi_law_cell_at : List D → Ro := fLI fun l k => if 0 ≤ k then .val (l.getD k.toNat (.int 0)) else .bad
theorem cell_val {ns : List Int} {k : Int} (h : 0 ≤ k) : phi_law_cell_at [.lst (ns.map D.int), .int k] = .val (.int (ns.getD k.toNat 0)) := by
  show (if 0 ≤ k then Ro.val ((ns.map D.int).getD k.toNat (.int 0)) else .bad) = _
  rw [if_pos h, getD_map]
def phi_is_whole : List D → Ro := fV fun d => if plainD d = true then .val (.bl (isWhole d)) else .bad
theorem is_whole_val {d : D} (h : plainD d = true) : phi_is_whole [d] = .val (.bl (isWhole d)) := if_pos h
def phi_law_whole : List D → Ro := fV fun d => match d with
  | .v (.int _) => .val (.bl true)
  | .v (.bl _) => .val (.bl false)
  | .v (.str _) => .val (.bl false)
  | .v .non => .val (.bl false)
  | .lst _ => .val (.bl false)
  | .tup _ => .val (.bl false)
  | _ => .bad
def phi_days_before : List D → Ro := fI fun y => .val (.int (dB y))
def phi_last_of : List D → Ro := fII fun y m => if 1 ≤ m ∧ m ≤ 12 then .val (.int (lastOf y m)) else .bad
theorem last_val {y m : Int} (h : 1 ≤ m ∧ m ≤ 12) : phi_last_of [.int y, .int m] = .val (.int (lastOf y m)) := if_pos h
def phi_law_last : List D → Ro := fII fun y m => if 1 ≤ m ∧ m ≤ 12 then .val (.int (lastOf y m)) else .bad
theorem lawlast_val {y m : Int} (h : 1 ≤ m ∧ m ≤ 12) : phi_law_last [.int y, .int m] = .val (.int (lastOf y m)) := if_pos h
def dayR (C : Addr) : D → D → D → Ro
  | .v (.int y), .v (.int m), .v (.int d) => if (1 ≤ m ∧ m ≤ 12) ∧ 1 ≤ d ∧ d ≤ lastOf y m then .val (.int (dayNum y m d)) else .exc C [] []
  | _, _, _ => .exc C [] []
def phi_day_of (C : Addr) : List D → Ro := fVVV fun y m d => if plainD y = true ∧ plainD m = true ∧ plainD d = true then dayR C y m d else .bad
theorem dayx_val {C : Addr} {y m d : D} (h : plainD y = true ∧ plainD m = true ∧ plainD d = true) : phi_day_of C [y, m, d] = dayR C y m d := if_pos h
theorem day_ok {C : Addr} {y m d : Int} (h : (1 ≤ m ∧ m ≤ 12) ∧ 1 ≤ d ∧ d ≤ lastOf y m) : phi_day_of C [.int y, .int m, .int d] = .val (.int (dayNum y m d)) := (dayx_val ⟨rfl, rfl, rfl⟩).trans (if_pos h)
theorem whole_int {d : D} (h : isWhole d = true) : ∃ i, d = .int i := by
  unfold isWhole at h
  split at h
  · exact ⟨_, rfl⟩
  · cases h
theorem day_odd {C : Addr} {y m d : D} (h : ¬(isWhole y = true ∧ isWhole m = true ∧ isWhole d = true)) : dayR C y m d = .exc C [] [] := by
  unfold dayR
  split
  · exact absurd ⟨rfl, rfl, rfl⟩ h
  · rfl
def timeR (C : Addr) : D → D → D → Ro
  | .v (.int y), .v (.int m), .v (.int d) => if (0 ≤ m ∧ m ≤ 23) ∧ 0 ≤ d ∧ d ≤ 59 then .val (.int (1440 * y + 60 * m + d)) else .exc C [] []
  | _, _, _ => .exc C [] []
def phi_moment_of (C : Addr) : List D → Ro := fVVV fun y m d => if plainD y = true ∧ plainD m = true ∧ plainD d = true then timeR C y m d else .bad
theorem timex_val {C : Addr} {y m d : D} (h : plainD y = true ∧ plainD m = true ∧ plainD d = true) : phi_moment_of C [y, m, d] = timeR C y m d := if_pos h
theorem moment_ok {C : Addr} {y m d : Int} (h : (0 ≤ m ∧ m ≤ 23) ∧ 0 ≤ d ∧ d ≤ 59) : phi_moment_of C [.int y, .int m, .int d] = .val (.int (1440 * y + 60 * m + d)) := (timex_val ⟨rfl, rfl, rfl⟩).trans (if_pos h)
theorem time_odd {C : Addr} {y m d : D} (h : ¬(isWhole y = true ∧ isWhole m = true ∧ isWhole d = true)) : timeR C y m d = .exc C [] [] := by
  unfold timeR
  split
  · exact absurd ⟨rfl, rfl, rfl⟩ h
  · rfl
theorem kit_self {K : PySem.W.Frag} {C : Addr} : PySem.W.kitOne K (.ref C) (.ref C) = some true := by simp [PySem.W.kitOne]
theorem boot_ValueError : bootBuiltins "ValueError" = some (.type "ValueError") := by decide +kernel

def phi_is_long : List D → Ro := fI fun y => .val (.bl (isLong y))
def phi_law_long : List D → Ro := fI fun y => .val (.bl (isLong y))
def phi_only_figures : List D → Ro := fT fun l => .val (.bl (onlyF l))
theorem moment_bad {C : Addr} {y m d : Int} (h : ¬((0 ≤ m ∧ m ≤ 23) ∧ 0 ≤ d ∧ d ≤ 59)) : phi_moment_of C [.int y, .int m, .int d] = .exc C [] [] := (timex_val ⟨rfl, rfl, rfl⟩).trans (if_neg h)
theorem cut_two {n : Int} (h : 0 ≤ n ∧ n < 100) : cutL (intL (100 + n)) (some 1) none = two n.toNat := by
  obtain ⟨k, rfl⟩ : ∃ k : Nat, n = k := ⟨n.toNat, by omega⟩
  rw [show (100 : Int) + (k : Nat) = ((100 + k : Nat) : Int) by omega, intL_nat, num100 (by omega), Int.toNat_natCast]
  rfl
theorem two_sz {n : Int} (h : 0 ≤ n ∧ n < 100) : (intL (100 + n)).length ≤ 1000000 := by
  obtain ⟨k, rfl⟩ : ∃ k : Nat, n = k := ⟨n.toNat, by omega⟩
  rw [show (100 : Int) + (k : Nat) = ((100 + k : Nat) : Int) by omega, intL_nat, num100 (by omega)]
  simp [two]
def yearR (C : Addr) (l : List Nat) : Ro := match yearM l with | some v => .val (.int v) | none => .exc C [] []
def phi_year_in (C : Addr) : List D → Ro := fT fun l => if l.length ≤ 100000 then yearR C l else .bad
theorem year_valR {C : Addr} {l : List Nat} (h : l.length ≤ 100000) : phi_year_in C [.tx l] = yearR C l := if_pos h
theorem only_sub {l m : List Nat} (h : onlyF l = true) (hm : m ≠ []) (hs : ∀ c ∈ m, c ∈ l) : onlyF m = true := onlyF_iff.mpr ⟨fun c hc => (onlyF_iff.mp h).1 c (hs c hc), hm⟩

theorem day_bad {C : Addr} {y m d : Int} (h : ¬((1 ≤ m ∧ m ≤ 12) ∧ 1 ≤ d ∧ d ≤ lastOf y m)) : phi_day_of C [.int y, .int m, .int d] = .exc C [] [] := (dayx_val ⟨rfl, rfl, rfl⟩).trans (if_neg h)
def notTx : D → Bool
  | .v (.str _) => false
  | d => plainD d
def phi_readM (C : Addr) : List D → Ro
  | [.v (.str s)] => if s.cps.toList.length ≤ 100000 then rdX C s.cps.toList else .bad
  | [d] => if notTx d = true then .exc C [] [] else .bad
  | _ => .bad
theorem readM_tx {C : Addr} {l : List Nat} (h : l.length ≤ 100000) : phi_readM C [.tx l] = rdX C l := if_pos (by simpa using h)
theorem readM_odd {C : Addr} {d : D} (h : notTx d = true) : phi_readM C [d] = .exc C [] [] := by
  unfold phi_readM
  split
  · rename_i e
    simp only [List.cons.injEq, and_true] at e
    subst e
    cases h
  · rename_i e
    simp only [List.cons.injEq, and_true] at e
    subst e
    exact if_pos h
  · rename_i h1 h2
    exact absurd rfl (h2 d)
theorem inv_readM {C : Addr} {ds : List D} (h : phi_readM C ds ≠ .bad) : (∃ l : List Nat, ds = [.tx l] ∧ l.length ≤ 100000) ∨ ∃ d, ds = [d] ∧ notTx d = true := by
  unfold phi_readM at h
  split at h
  · rename_i z
    exact .inl ⟨z.cps.toList, by rw [D.tx, ← ofTx], if_ok h⟩
  · exact .inr ⟨_, rfl, if_ok h⟩
  · exact absurd rfl h
def toTxs (l : List D) : List (List Nat) := l.map fun d => match d with
  | .v (.str z) => z.cps.toList
  | _ => []
theorem toTxs_txs (ts : List (List Nat)) : toTxs (txs ts) = ts := by
  unfold toTxs txs
  rw [List.map_map]
  exact List.map_id'' (fun t => by simp) ts
theorem txs_ix {its : List (List Nat)} {k : Nat} (hk : k < its.length) : atI (txs its) (k : Int) = some (.tx (its.getD k [])) := by
  refine atI_nat ?_
  unfold txs
  rw [List.getElem?_map, List.getD_eq_getElem?_getD, List.getElem?_eq_getElem hk]
  rfl
theorem txs_set (ts : List (List Nat)) (i : Nat) (t : List Nat) : (txs ts).set i (.tx t) = txs (ts.set i t) := by
  unfold txs
  rw [List.map_set]
theorem join_flat : ∀ ps : List (List Nat), TL.joinL [] ps = ps.flatten
  | [] => rfl
  | [p] => by simp [TL.joinL]
  | p :: q :: r => by
    show p ++ ([] ++ TL.joinL [] (q :: r)) = p ++ (q :: r).flatten
    rw [join_flat (q :: r), List.nil_append]
def phi_law_two : List D → Ro := fI fun n => if 0 ≤ n ∧ n < 100 then .val (.tx (two n.toNat)) else .bad
theorem ltwo_val {n : Int} (h : 0 ≤ n ∧ n < 100) : phi_law_two [.int n] = .val (.tx (two n.toNat)) := if_pos h
/-- what is drawn -/
def pY (c : Int) : Int := if c / 7 % 2 = 0 then c % 3001 - 500 else c % (2 * 10 ^ Int.toNat 20 + 1) - 10 ^ Int.toNat 20
theorem pY_lt (c : Int) : (pY c).natAbs < 10 ^ 50 := by
  unfold pY
  rw [show (10 : Int) ^ Int.toNat 20 = 100000000000000000000 from rfl, show (10 : Nat) ^ 50 = 100000000000000000000000000000000000000000000000000 from rfl]
  split <;> omega
def pM (o : Int) : Nat := (1 + o % 12).toNat
def pD (c o : Int) : Nat := (1 + o / 12 % lastOf (pY c) (pM o)).toNat
def pH (o : Int) : Nat := (o / 372 % 24).toNat
def pI (o : Int) : Nat := (o / 8928 % 60).toNat
def pL (c o : Int) : Nat := (lastOf (pY c) (pM o)).toNat
def ptx (c o : Int) : List (List Nat) := prts (pY c) (pM o) (pD c o) (pH o) (pI o)
structure PrOk (c o : Int) : Prop where
  m : pM o < 100 ∧ 1 ≤ (pM o : Int) ∧ (pM o : Int) ≤ 12
  d : pD c o < 100 ∧ 1 ≤ (pD c o : Int) ∧ (pD c o : Int) ≤ lastOf (pY c) (pM o)
  h : pH o < 100 ∧ 0 ≤ (pH o : Int) ∧ (pH o : Int) ≤ 23
  i : pI o < 100 ∧ 0 ≤ (pI o : Int) ∧ (pI o : Int) ≤ 59
  l : lastOf (pY c) (pM o) = (pL c o : Int) ∧ pL c o ≤ 31
  l2 : 28 ≤ pL c o
theorem pr_ok (c o : Int) : PrOk c o := by
  have hr := lastOf_range (pY c) (pM o)
  have hm : 1 ≤ (pM o : Int) ∧ (pM o : Int) ≤ 12 := by
    unfold pM
    omega
  have h1 := Int.emod_nonneg (o / 12) (show lastOf (pY c) (pM o) ≠ 0 by omega)
  have h2 := Int.emod_lt_of_pos (o / 12) (show 0 < lastOf (pY c) (pM o) by omega)
  have hd : 1 ≤ (pD c o : Int) ∧ (pD c o : Int) ≤ lastOf (pY c) (pM o) := by
    unfold pD
    omega
  refine ⟨by omega, by omega, ?_, ?_, ?_, ?_⟩
  · unfold pH
    omega
  · unfold pI
    omega
  · unfold pL
    omega
  · unfold pL
    omega
theorem intL_len {y : Int} (h : y.natAbs < 10 ^ 50) : (intL y).length ≤ 51 := by
  unfold intL
  split
  · have := numL_len (n := (-y).toNat) (k := 50) (by decide) (by omega)
    simp
    omega
  · have := numL_len (n := y.toNat) (k := 50) (by decide) (by omega)
    omega
def phi_law_parts : List D → Ro := fII fun c o => .val (.tup [.lst (txs (ptx c o)), .int (pL c o : Nat)])
def nonneg (c : Int) : Nat := (c % 440).toNat
theorem nn (c : Int) : (nonneg c : Int) % 10 = c % 10 ∧ (nonneg c : Int) % 4 = c % 4 ∧ (nonneg c : Int) / 2 % 11 = c / 2 % 11 ∧ (nonneg c : Int) % 2 = c % 2 := by
  unfold nonneg
  omega
def phi_law_bad_number : List D → Ro
  | [.v (.int c), .v (.str s)] => if s.cps.toList.length = 2 then .val (.tx (numO (c % 11).toNat s.cps.toList)) else .bad
  | _ => .bad
theorem badn_val {c : Int} {l : List Nat} (h : l.length = 2) : phi_law_bad_number [.int c, .tx l] = .val (.tx (numO (c % 11).toNat l)) := if_pos (by simpa using h)
def yrX (x : List Nat) (k : Nat) : List Nat := ([[48] ++ x, [43] ++ x, [45, 48], [], [120], x ++ [32], List.replicate 51 49, [45] ++ List.replicate 51 49, [50, 48, 50, 52, 46], [50, 95, 48, 50, 52]] : List (List Nat)).getD k []
def badX (x : List Nat) (last a c : Nat) : List Nat := if a = 0 then yrX x (c % 10) else optT last a c
theorem badX_int (y : Int) (last a c : Nat) : badX (intL y) last a c = badT y last a c := rfl
theorem numO_len (k : Nat) {out : List Nat} (h : out.length = 2) : (numO k out).length ≤ 3 := by
  unfold numO
  by_cases hk : k < 11
  · have : k = 0 ∨ k = 1 ∨ k = 2 ∨ k = 3 ∨ k = 4 ∨ k = 5 ∨ k = 6 ∨ k = 7 ∨ k = 8 ∨ k = 9 ∨ k = 10 := by omega
    rcases this with rfl | rfl | rfl | rfl | rfl | rfl | rfl | rfl | rfl | rfl | rfl
    · show out.length ≤ 3
      omega
    all_goals first | exact Nat.le_of_ble_eq_true rfl
  · rw [List.getD_eq_getElem?_getD, List.getElem?_eq_none (by simpa using hk)]
    simp
theorem sgnO_len (a k : Nat) : (sgnO a k).length ≤ 2 := by
  unfold sgnO
  by_cases hk : k < 4
  · have : k = 0 ∨ k = 1 ∨ k = 2 ∨ k = 3 := by omega
    rcases this with rfl | rfl | rfl | rfl <;> (repeat' split) <;> exact Nat.le_of_ble_eq_true rfl
  · rw [List.getD_eq_getElem?_getD, List.getElem?_eq_none (by (repeat' split) <;> simpa using hk)]
    simp
theorem yrX_len (x : List Nat) (k : Nat) : (yrX x k).length ≤ x.length + 60 := by
  unfold yrX
  by_cases hk : k < 10
  · rcases ten_cases hk with rfl | rfl | rfl | rfl | rfl | rfl | rfl | rfl | rfl | rfl <;> simp <;> omega
  · rw [List.getD_eq_getElem?_getD, List.getElem?_eq_none (by simpa using hk)]
    simp
theorem badX_len (x : List Nat) (last a c : Nat) : (badX x last a c).length ≤ x.length + 60 := by
  unfold badX
  split
  · exact yrX_len _ _
  · unfold optT
    split
    · have := sgnO_len a (c % 4)
      omega
    · have := numO_len (c / 2 % 11) (out := two (outN last a (c % 2))) rfl
      omega
abbrev okPs (ps : List (List Nat)) : Prop := ps.length = 9 ∧ ∀ p ∈ ps, p.length ≤ 120
open Classical in
noncomputable def phi_law_bad : List D → Ro
  | [.lst l, .v (.int last), .v (.int a), .v (.int c)] => if l = txs (toTxs l) ∧ okPs (toTxs l) ∧ (28 ≤ last ∧ last ≤ 31) ∧ 0 ≤ a ∧ a < 9 then .val (.tx (badX ((toTxs l).getD 0 []) last.toNat a.toNat (nonneg c))) else .bad
  | _ => .bad
theorem bad_val {ps : List (List Nat)} {last a : Nat} {c : Int} (h : okPs ps) (hl : 28 ≤ last ∧ last ≤ 31) (ha : a < 9) : phi_law_bad [.lst (txs ps), .int (last : Nat), .int (a : Nat), .int c] = .val (.tx (badX (ps.getD 0 []) last a (nonneg c))) := by
  unfold phi_law_bad
  simp only
  rw [if_pos ⟨by rw [toTxs_txs], by rw [toTxs_txs]; exact h, by omega, by omega⟩, toTxs_txs, Int.toNat_natCast, Int.toNat_natCast]
open Classical in
theorem bad_inv {ds : List D} (hb : phi_law_bad ds ≠ .bad) : ∃ (ps : List (List Nat)) (last a : Nat) (c : Int), ds = [.lst (txs ps), .int (last : Nat), .int (a : Nat), .int c] ∧ okPs ps ∧ (28 ≤ last ∧ last ≤ 31) ∧ a < 9 := by
  unfold phi_law_bad at hb
  split at hb
  · rename_i l last a c
    obtain ⟨h1, h2, h3, h4, h5⟩ := if_ok hb
    exact ⟨toTxs l, last.toNat, a.toNat, c, by rw [← h1, Int.toNat_of_nonneg (by omega), Int.toNat_of_nonneg h4], h2, by omega, by omega⟩
  · exact absurd rfl hb
/-- the thing that is no text of a moment -/
def oddM (x : List Nat) : List D := [.non, .int 5, .bl true, .lst [.tx x], .tup [.tx x], .dct [] []]
def sp1 (ps : List (List Nat)) (last : Nat) (c : Int) : List (List Nat) := ps.set (c % 9).toNat (badX (ps.getD 0 []) last (c % 9).toNat (nonneg (c / 9)))
def spO (c : Int) : Nat := ((c % 9 + 1 + c / 180 % 8) % 9).toNat
def sptD (ps : List (List Nat)) (last : Nat) (c : Int) : D :=
  if c % 7 = 0 then (oddM ps.flatten).getD (c / 7 % 6).toNat .non
  else if c % 7 = 1 then .tx (wholeO ps.flatten (c / 7 % 10).toNat)
  else if 4 < c % 7 then .tx ((sp1 ps last (c / 7)).set (spO (c / 7)) (badX (ps.getD 0 []) last (spO (c / 7)) (nonneg (c / 7 / 1440)))).flatten
  else .tx (sp1 ps last (c / 7)).flatten
open Classical in
noncomputable def phi_law_spoilt : List D → Ro
  | [.lst l, .v (.int last), .v (.int c)] => if l = txs (toTxs l) ∧ okPs (toTxs l) ∧ (28 ≤ last ∧ last ≤ 31) then .val (sptD (toTxs l) last.toNat c) else .bad
  | _ => .bad
theorem spoilt_val {ps : List (List Nat)} {last : Nat} {c : Int} (h : okPs ps) (hl : 28 ≤ last ∧ last ≤ 31) : phi_law_spoilt [.lst (txs ps), .int (last : Nat), .int c] = .val (sptD ps last c) := by
  unfold phi_law_spoilt
  simp only
  rw [if_pos ⟨by rw [toTxs_txs], by rw [toTxs_txs]; exact h, by omega⟩, toTxs_txs, Int.toNat_natCast]
open Classical in
theorem spoilt_inv {ds : List D} (hb : phi_law_spoilt ds ≠ .bad) : ∃ (ps : List (List Nat)) (last : Nat) (c : Int), ds = [.lst (txs ps), .int (last : Nat), .int c] ∧ okPs ps ∧ (28 ≤ last ∧ last ≤ 31) := by
  unfold phi_law_spoilt at hb
  split at hb
  · rename_i l last c
    obtain ⟨h1, h2, h3⟩ := if_ok hb
    exact ⟨toTxs l, last.toNat, c, by rw [← h1, Int.toNat_of_nonneg (by omega)], h2, by omega⟩
  · exact absurd rfl hb
theorem flat_len {ps : List (List Nat)} {m : Nat} (h : ∀ p ∈ ps, p.length ≤ m) : ps.flatten.length ≤ m * ps.length := by
  induction ps with
  | nil => simp
  | cons p ps ih =>
    have h1 := h p List.mem_cons_self
    have h2 := ih fun q hq => h q (List.mem_cons_of_mem _ hq)
    rw [List.flatten_cons, List.length_append, List.length_cons, Nat.mul_add]
    omega
theorem sums_flat : ∀ ps : List (List Nat), (ps.map (·.length)).sum = ps.flatten.length
  | [] => rfl
  | p :: ps => by
    rw [List.map_cons, List.sum_cons, sums_flat ps, List.flatten_cons, List.length_append]
theorem okPs_set {ps : List (List Nat)} {i : Nat} {w : List Nat} (h : okPs ps) (hx : (ps.getD 0 []).length ≤ 60) (hw : w.length ≤ (ps.getD 0 []).length + 60) : okPs (ps.set i w) := ⟨by rw [List.length_set]; exact h.1, fun p hp => by
  rcases List.mem_or_eq_of_mem_set hp with hp | rfl
  · exact h.2 p hp
  · omega⟩
theorem ptx_ok (c o : Int) : okPs (ptx c o) ∧ ((ptx c o).getD 0 []).length ≤ 60 := by
  have h := intL_len (pY_lt c)
  refine ⟨⟨rfl, fun p hp => ?_⟩, by show (intL (pY c)).length ≤ 60; omega⟩
  simp only [ptx, prts, tlP, List.mem_cons, List.not_mem_nil, or_false] at hp
  rcases hp with rfl | rfl | rfl | rfl | rfl | rfl | rfl | rfl | rfl
  · omega
  all_goals exact Nat.le_of_ble_eq_true rfl
theorem flat9 {ps : List (List Nat)} (h : okPs ps) : ps.flatten.length ≤ 1080 := by
  have := flat_len h.2
  rw [h.1] at this
  exact this
theorem ptx_read {C : Addr} (c o : Int) : phi_readM C [.tx (ptx c o).flatten] = .val (.int (1440 * dayNum (pY c) (pM o) (pD c o) + 60 * (pH o : Int) + (pI o : Int))) := by
  have q := pr_ok c o
  have h2 := flat9 (ptx_ok c o).1
  rw [readM_tx (by omega)]
  have := read_shown (C := C) (Q := .exc C [] []) (y := pY c) (m := pM o) (d := pD c o) (h := pH o) (mi := pI o) ⟨⟨q.m.2.1, q.m.2.2⟩, q.d.2.1, q.d.2.2⟩ ⟨⟨q.h.2.1, q.h.2.2⟩, q.i.2.1, q.i.2.2⟩
  rw [if_pos (pY_lt c)] at this
  rw [← this]
  show readR C _ _ = readR C _ _
  congr 1
  unfold showD ptx prts tlP
  simp only [List.flatten_cons, List.flatten_nil, List.append_nil, List.append_assoc, Int.toNat_natCast]
open Classical in
noncomputable def phi_law_refused (C : Addr) : List D → Ro := fun ds => if phi_readM C ds = .exc C [] [] ∧ ds.length = 1 then .val (.bl true) else .bad
theorem refused_val {C : Addr} {d : D} (h : phi_readM C [d] = .exc C [] []) : phi_law_refused C [d] = .val (.bl true) := if_pos ⟨h, rfl⟩
theorem sp_refused {C : Addr} (c o e : Int) : phi_readM C [sptD (ptx c o) (pL c o) e] = .exc C [] [] := by
  have q := pr_ok c o
  obtain ⟨ok, ok0⟩ := ptx_ok c o
  have f9 := flat9 ok
  have ex : (ptx c o).getD 0 [] = intL (pY c) := rfl
  unfold sptD
  split
  · refine readM_odd ?_
    have : c / 7 % 6 = c / 7 % 6 := rfl
    have hk : (e / 7 % 6).toNat = 0 ∨ (e / 7 % 6).toNat = 1 ∨ (e / 7 % 6).toNat = 2 ∨ (e / 7 % 6).toNat = 3 ∨ (e / 7 % 6).toNat = 4 ∨ (e / 7 % 6).toNat = 5 := by omega
    rcases hk with hk | hk | hk | hk | hk | hk <;> rw [hk] <;> rfl
  · split
    · have hk : (e / 7 % 10).toNat < 10 := by omega
      rw [readM_tx ?_]
      · exact bad_whole hk
      · clear ok ok0 q ex
        generalize (ptx c o).flatten = x at f9 ⊢
        unfold wholeO
        rcases ten_cases hk with hk | hk | hk | hk | hk | hk | hk | hk | hk | hk <;> rw [hk] <;> simp <;> omega
    · have h9 : (e / 7 % 9).toNat < 9 := by omega
      have o1 : okPs (sp1 (ptx c o) (pL c o) (e / 7)) := okPs_set ok ok0 (badX_len _ _ _ _)
      split
      · have ho : spO (e / 7) < 9 := by unfold spO; omega
        have o2 : okPs ((sp1 (ptx c o) (pL c o) (e / 7)).set (spO (e / 7)) (badX ((ptx c o).getD 0 []) (pL c o) (spO (e / 7)) (nonneg (e / 7 / 1440)))) := ⟨by rw [List.length_set]; exact o1.1, fun p hp => by
          rcases List.mem_or_eq_of_mem_set hp with hp | rfl
          · exact o1.2 p hp
          · have := badX_len ((ptx c o).getD 0 []) (pL c o) (spO (e / 7)) (nonneg (e / 7 / 1440))
            omega⟩
        have := flat9 o2
        rw [readM_tx (by omega), ex, badX_int]
        unfold sp1
        rw [ex, badX_int]
        refine bad_two q.m.1 q.d.1 q.h.1 q.i.1 q.l h9 ho ?_
        unfold spO
        omega
      · have := flat9 o1
        rw [readM_tx (by omega)]
        unfold sp1
        rw [ex, badX_int]
        exact bad_one q.m.1 q.d.1 q.h.1 q.i.1 q.l h9

section
variable {P : Program} {w : World} {K : PySem.W.Frag} {mg : Str → Option Value} {base : Heap}
variable {a_FieldError a_NoDay a_NoMoment a_NoField a_NoRow a_NoBook a_NoClock a_NoName a_NoWord : Addr}
theorem ok_is_whole (T : DefAt K mg "is_whole" s_is_whole ["thing"]) (m_isinstance : mg "isinstance" = none) (m_int : mg "int" = none) (m_bool : mg "bool" = none) : FnC P w K mg base "is_whole" 1 1 phi_is_whole := by
  refine def_ok T sc_is_whole (nk := nk_is_whole) rfl (by decide +kernel) rfl fun X W ds B S hl nb => ?_
  obtain ⟨d, rfl, hb⟩ := inv_V nb
  have hp := if_ok hb
  refine ⟨.ret (.bl (isWhole d)), ?_, by
    rw [is_whole_val hp]
    exact .ret _⟩
  cases d with
  | v x => cases x with
    | int i => exact (x_ret (xe_andV (x_isi B 1 2 m_isinstance (x_var B 0 0) (x_cls B 2 m_int boot_int) (.ty _) (by first | exact .int _ | exact .bl _ | exact .str _ | exact .tup _ | exact .lst _ | exact .non | exact .dct _ _) kit_is) fun hq0 => (xe_one (xe_notV (x_isi B 1 3 m_isinstance (x_var B 0 0) (x_cls B 3 m_bool boot_bool) (.ty _) (by first | exact .int _ | exact .bl _ | exact .str _ | exact .tup _ | exact .lst _ | exact .non | exact .dct _ _) kit_is))))).is rfl
    | bl b => exact (x_ret (xe_andV (x_isi B 1 2 m_isinstance (x_var B 0 0) (x_cls B 2 m_int boot_int) (.ty _) (by first | exact .int _ | exact .bl _ | exact .str _ | exact .tup _ | exact .lst _ | exact .non | exact .dct _ _) kit_is) fun hq0 => (xe_one (xe_notV (x_isi B 1 3 m_isinstance (x_var B 0 0) (x_cls B 3 m_bool boot_bool) (.ty _) (by first | exact .int _ | exact .bl _ | exact .str _ | exact .tup _ | exact .lst _ | exact .non | exact .dct _ _) kit_is))))).is rfl
    | str z => exact (x_ret (xe_andV (x_isi B 1 2 m_isinstance (x_var B 0 0) (x_cls B 2 m_int boot_int) (.ty _) (by first | exact .int _ | exact .bl _ | exact .str _ | exact .tup _ | exact .lst _ | exact .non | exact .dct _ _) kit_is) fun hq0 => (xe_one (xe_notV (x_isi B 1 3 m_isinstance (x_var B 0 0) (x_cls B 3 m_bool boot_bool) (.ty _) (by first | exact .int _ | exact .bl _ | exact .str _ | exact .tup _ | exact .lst _ | exact .non | exact .dct _ _) kit_is))))).is rfl
    | non => exact (x_ret (xe_andV (x_isi B 1 2 m_isinstance (x_var B 0 0) (x_cls B 2 m_int boot_int) (.ty _) (by first | exact .int _ | exact .bl _ | exact .str _ | exact .tup _ | exact .lst _ | exact .non | exact .dct _ _) kit_is) fun hq0 => (xe_one (xe_notV (x_isi B 1 3 m_isinstance (x_var B 0 0) (x_cls B 3 m_bool boot_bool) (.ty _) (by first | exact .int _ | exact .bl _ | exact .str _ | exact .tup _ | exact .lst _ | exact .non | exact .dct _ _) kit_is))))).is rfl
    | _ => exact absurd hp nofun
  | lst l => exact (x_ret (xe_andV (x_isi B 1 2 m_isinstance (x_var B 0 0) (x_cls B 2 m_int boot_int) (.ty _) (by first | exact .int _ | exact .bl _ | exact .str _ | exact .tup _ | exact .lst _ | exact .non | exact .dct _ _) kit_is) fun hq0 => (xe_one (xe_notV (x_isi B 1 3 m_isinstance (x_var B 0 0) (x_cls B 3 m_bool boot_bool) (.ty _) (by first | exact .int _ | exact .bl _ | exact .str _ | exact .tup _ | exact .lst _ | exact .non | exact .dct _ _) kit_is))))).is rfl
  | tup l => exact (x_ret (xe_andV (x_isi B 1 2 m_isinstance (x_var B 0 0) (x_cls B 2 m_int boot_int) (.ty _) (by first | exact .int _ | exact .bl _ | exact .str _ | exact .tup _ | exact .lst _ | exact .non | exact .dct _ _) kit_is) fun hq0 => (xe_one (xe_notV (x_isi B 1 3 m_isinstance (x_var B 0 0) (x_cls B 3 m_bool boot_bool) (.ty _) (by first | exact .int _ | exact .bl _ | exact .str _ | exact .tup _ | exact .lst _ | exact .non | exact .dct _ _) kit_is))))).is rfl
  | dct k l => exact (x_ret (xe_andV (x_isi B 1 2 m_isinstance (x_var B 0 0) (x_cls B 2 m_int boot_int) (.ty _) (by first | exact .int _ | exact .bl _ | exact .str _ | exact .tup _ | exact .lst _ | exact .non | exact .dct _ _) kit_is) fun hq0 => (xe_one (xe_notV (x_isi B 1 3 m_isinstance (x_var B 0 0) (x_cls B 3 m_bool boot_bool) (.ty _) (by first | exact .int _ | exact .bl _ | exact .str _ | exact .tup _ | exact .lst _ | exact .non | exact .dct _ _) kit_is))))).is rfl
  | _ => exact absurd hp nofun
theorem ok_only_figures (T : DefAt K mg "only_figures" s_only_figures ["signs"]) (g_FIGURES : GlD K mg "FIGURES" d_FIGURES) : FnC P w K mg base "only_figures" 1 1 phi_only_figures := by
  refine def_ok T sc_only_figures (nk := nk_only_figures) rfl (by decide +kernel) rfl fun X W ds B S hl nb => ?_
  obtain ⟨l, rfl, _⟩ := inv_T nb
  refine ⟨.ret (.bl (onlyF l)), ?_, .ret _⟩
  by_cases h : (l.any fun c => !decide (c ∈ figs)) = true
  · have e : onlyF l = false := by
      unfold onlyF
      obtain ⟨c, hc, h2⟩ := List.any_eq_true.mp h
      rw [Bool.and_eq_false_iff]
      exact .inl (List.all_eq_false.mpr ⟨c, hc, by simpa using h2⟩)
    rw [e]
    refine x_forX B S (xi_str (x_var B 0 0)) (fo_stop (o := .ret (.bl false)) (fun c => !decide (c ∈ figs)) trivial (by simp) (by simp) (fun c hc => ⟨[_, _], (x_tgt B S.fn 1 1), fun q => ?_, fun q => ?_⟩) h) trivial
    · exact xb_ifT (t_notInT (x_var B 1 1) (x_gd B 2 g_FIGURES)) q (x_ret xe_bl) trivial
    · exact xb_ifF (t_notInT (x_var B 1 1) (x_gd B 2 g_FIGURES)) q (xb_end (by (repeat' (first | exact WkL.nil | apply WkL.cons)) <;> (first | exact Wk.same _ | exact Wk.no _)))
  · have h' := Bool.eq_false_iff.mpr h
    refine x_for B S (xi_str (x_var B 0 0)) (fo_allM fun c hc => ⟨[_, _], (x_tgt B S.fn 1 1), ?_⟩) ?_
    · exact xb_ifF (t_notInT (x_var B 1 1) (x_gd B 2 g_FIGURES)) (Bool.eq_false_iff.mpr fun q => h (List.any_eq_true.mpr ⟨c, hc, q⟩)) (xb_end (by (repeat' (first | exact WkL.nil | apply WkL.cons)) <;> (first | exact Wk.same _ | exact Wk.no _)))
    · refine (x_ret (x_neT (x_var B 0 0) (x_lit []))).is ?_
      unfold onlyF
      have : (l.all fun c => decide (c ∈ figs)) = true := List.all_eq_true.mpr fun c hc => by
        have := List.any_eq_false.mp h' c hc
        by_cases q : c ∈ figs
        · exact decide_eq_true q
        · exact absurd (by rw [decide_eq_false q]; rfl) this
      rw [this, Bool.true_and]
theorem ok_is_long (T : DefAt K mg "is_long" s_is_long ["year"]) : FnC P w K mg base "is_long" 1 1 phi_is_long := by
  refine def_ok T sc_is_long (nk := nk_is_long) rfl (by decide +kernel) rfl fun X W ds B S hl nb => ?_
  obtain ⟨y, rfl, hb⟩ := inv_I nb
  exact ⟨_, x_ret (xe_andV (xe_cmp (x_bin (x_var B 0 0) xe_int (.modI _ _ (by decide))) xe_int (by first | exact .eqI _ _ | exact .eqS _ _ | exact .eqB _ _)) fun hq0 => (xe_one (xe_orV (xe_cmp (x_bin (x_var B 0 0) xe_int (.modI _ _ (by decide))) xe_int (by first | exact .neI _ _ | exact .neS _ _ | exact .neB _ _)) fun hq0 => (xe_one (xe_cmp (x_bin (x_var B 0 0) xe_int (.modI _ _ (by decide))) xe_int (by first | exact .eqI _ _ | exact .eqS _ _ | exact .eqB _ _)))))), .ret _⟩
theorem ok_days_before (T : DefAt K mg "days_before" s_days_before ["year"]) : FnC P w K mg base "days_before" 1 1 phi_days_before := by
  refine def_ok T sc_days_before (nk := nk_days_before) rfl (by decide +kernel) rfl fun X W ds B S hl nb => ?_
  obtain ⟨y, rfl, hb⟩ := inv_I nb
  exact ⟨_, x_ret (x_bin (x_bin (x_bin (x_bin xe_int (x_var B 0 0) (.mulI _ _ (.inl ⟨by decide, by decide⟩))) (x_bin (x_bin (x_var B 0 0) xe_int (by first | exact .addI _ _ | exact .catS _ _ (by first | assumption | omega | decide))) xe_int (.divI _ _ ⟨by decide, by decide⟩)) (by first | exact .addI _ _ | exact .catS _ _ (by first | assumption | omega | decide))) (x_bin (x_bin (x_var B 0 0) xe_int (by first | exact .addI _ _ | exact .catS _ _ (by first | assumption | omega | decide))) xe_int (.divI _ _ ⟨by decide, by decide⟩)) (.subI _ _)) (x_bin (x_bin (x_var B 0 0) xe_int (by first | exact .addI _ _ | exact .catS _ _ (by first | assumption | omega | decide))) xe_int (.divI _ _ ⟨by decide, by decide⟩)) (by first | exact .addI _ _ | exact .catS _ _ (by first | assumption | omega | decide))), .ret _⟩
theorem ok_last_of (T : DefAt K mg "last_of" s_last_of ["year", "month"]) (c_is_long : FnC P w K mg base "is_long" 1 1 phi_is_long) (g_LASTS : GlD K mg "LASTS" d_LASTS) : FnC P w K mg base "last_of" 2 2 phi_last_of := by
  refine def_ok T sc_last_of (nk := nk_last_of) rfl (by decide +kernel) rfl fun X W ds B S hl nb => ?_
  obtain ⟨y, m, rfl, hb⟩ := inv_II nb
  have hm := if_ok hb
  refine ⟨.ret (.int (lastOf y m)), ?_, by
    rw [last_val hm]
    exact .ret _⟩
  refine xb_if ((xv_and (xt_cmpv (x_var B 1 1) xe_int (by first | exact .eqI _ _ | exact .eqS _ _ | exact .eqB _ _)) fun hq0 => (xv_and1 (xt_val (x_call B c_is_long 2 (xa_cons (x_var B 0 0) xa_nil) rfl))))).t (fun h => ⟨(x_ret xe_int).is ?a, trivial⟩) fun h => x_ret (x_ix (x_gd B 3 g_LASTS) (x_bin (x_var B 1 1) xe_int (.subI _ _)) (.tup _ _ _ (lasts_ix hm.1 hm.2 ?b)))
  case a =>
    simp only [Bool.and_eq_true, decide_eq_true_eq] at h
    simp [lastOf, h.1, h.2]
  case b =>
    intro q
    subst q
    simpa using h
theorem ok_day_of (T : DefAt K mg "day_of" s_day_of ["year", "month", "day"]) (c_is_whole : FnC P w K mg base "is_whole" 1 1 phi_is_whole) (c_last_of : FnC P w K mg base "last_of" 2 2 phi_last_of) (c_days_before : FnC P w K mg base "days_before" 1 1 phi_days_before) (m_sum : mg "sum" = none) (m_range : mg "range" = none) (x_NoDay : ExCls K mg "NoDay" a_NoDay) (q_NoDay : PySem.W.excIn K a_NoDay veM "ValueError.__new__" = true) : FnC P w K mg base "day_of" 3 3 (phi_day_of a_NoDay) := by
  refine def_ok T sc_day_of (nk := nk_day_of) rfl (by decide +kernel) rfl fun X W ds B S hl nb => ?_
  obtain ⟨y, m, d, rfl, hb⟩ := inv_VVV nb
  have hp := if_ok hb
  rw [dayx_val hp]
  by_cases hw : isWhole y = true ∧ isWhole m = true ∧ isWhole d = true
  · obtain ⟨w1, w2, w3⟩ := hw
    obtain ⟨y, rfl⟩ := whole_int w1
    obtain ⟨m, rfl⟩ := whole_int w2
    obtain ⟨d, rfl⟩ := whole_int w3
    by_cases hv : (1 ≤ m ∧ m ≤ 12) ∧ 1 ≤ d ∧ d ≤ lastOf y m
    · obtain ⟨h1, h2, h3⟩ := hv
      refine ⟨.ret (.int (dayNum y m d)), ?_, by
        rw [show dayR a_NoDay (.int y) (.int m) (.int d) = _ from if_pos ⟨h1, h2, h3⟩]
        exact .ret _⟩
      refine xb_ifF ((xv_or (xt_not (xt_val (x_call B c_is_whole 3 (xa_cons (x_var B 0 0) xa_nil) (is_whole_val rfl)))) fun hq0 => (xv_or (xt_not (xt_val (x_call B c_is_whole 3 (xa_cons (x_var B 1 1) xa_nil) (is_whole_val rfl)))) fun hq1 => (xv_or1 (xt_not (xt_val (x_call B c_is_whole 3 (xa_cons (x_var B 2 2) xa_nil) (is_whole_val rfl)))))))).t rfl ?_
      refine xb_ifF ((xv_or (xt_not (t_chain xe_int (x_var B 1 1) (.le _ _) (fun hc => xe_int) (fun hc => (.le _ _)))) fun hq0 => (xv_or1 (xt_not (t_chain xe_int (x_var B 2 2) (.le _ _) (fun hc => (x_call B c_last_of 5 (xa_cons (x_var B 0 0) (xa_cons (x_var B 1 1) xa_nil)) (last_val h1))) (fun hc => (.le _ _))))))).t (by simp [h1, h2, h3]) ?_
      refine (x_ret (x_bin (x_bin (x_bin (x_call B c_days_before 6 (xa_cons (x_var B 0 0) xa_nil) rfl) (x_sum B 7 m_sum (xo_lcE B (own := [("k", 3)]) (ρ2 := [_, _, _, _]) (okb B) (x_range2 B 8 m_range xe_int (x_var B 1 1) (by omega)) (by simp [rgD_len] <;> omega) rfl (lc_rgI (fun i => lastOf y (1 + (i : Nat))) ?lc)).dat) (by first | exact .addI _ _ | exact .catS _ _ (by first | assumption | omega | decide))) (x_var B 2 2) (by first | exact .addI _ _ | exact .catS _ _ (by first | assumption | omega | decide))) xe_int (.subI _ _))).is ?_
      case lc =>
        intro i hi
        exact ⟨_, blk_of (nkc := [(".0", .«local»), ("k", .«local»), ("last_of", .globalImplicit), ("year", .free)]) rfl (by decide +kernel) B fun Y Bc => (x_tgw Bc 3 1), blk_of (nkc := [(".0", .«local»), ("k", .«local»), ("last_of", .globalImplicit), ("year", .free)]) rfl (by decide +kernel) B fun Y Bc => (x_call Bc c_last_of 2 (xa_cons (x_var Bc 0 3) (xa_cons (x_var Bc 3 1) xa_nil)) (last_val (by omega)))⟩
      rw [sum_lasts h1.1 h1.2]
      rfl
    · rw [show dayR a_NoDay (.int y) (.int m) (.int d) = .exc a_NoDay [] [] from if_neg hv]
      refine ⟨.exc a_NoDay [] [] (startE N_day_of [.int y, .int m, .int d]), ?_, .exc _ _ _ _⟩
      refine xb_ifF ((xv_or (xt_not (xt_val (x_call B c_is_whole 3 (xa_cons (x_var B 0 0) xa_nil) (is_whole_val rfl)))) fun hq0 => (xv_or (xt_not (xt_val (x_call B c_is_whole 3 (xa_cons (x_var B 1 1) xa_nil) (is_whole_val rfl)))) fun hq1 => (xv_or1 (xt_not (xt_val (x_call B c_is_whole 3 (xa_cons (x_var B 2 2) xa_nil) (is_whole_val rfl)))))))).t rfl ?_
      refine xb_if ((xv_or (xt_not (t_chain xe_int (x_var B 1 1) (.le _ _) (fun hc => xe_int) (fun hc => (.le _ _)))) fun hq0 => (xv_or1 (xt_not (t_chain xe_int (x_var B 2 2) (.le _ _) (fun hc => (x_call B c_last_of 5 (xa_cons (x_var B 0 0) (xa_cons (x_var B 1 1) xa_nil)) (last_val (by simpa using hq0)))) (fun hc => (.le _ _))))))).t (fun _ => ⟨x_raise B S x_NoDay q_NoDay 4, trivial⟩) fun h => ?_
      refine absurd ?_ hv
      simp at h
      omega
  · rw [day_odd hw]
    refine ⟨.exc a_NoDay [] [] (startE N_day_of [y, m, d]), ?_, .exc _ _ _ _⟩
    refine xb_if ((xv_or (xt_not (xt_val (x_call B c_is_whole 3 (xa_cons (x_var B 0 0) xa_nil) (is_whole_val hp.1)))) fun hq0 => (xv_or (xt_not (xt_val (x_call B c_is_whole 3 (xa_cons (x_var B 1 1) xa_nil) (is_whole_val hp.2.1)))) fun hq1 => (xv_or1 (xt_not (xt_val (x_call B c_is_whole 3 (xa_cons (x_var B 2 2) xa_nil) (is_whole_val hp.2.2)))))))).t (fun _ => ⟨x_raise B S x_NoDay q_NoDay 4, trivial⟩) fun h => ?_
    refine absurd ?_ hw
    simpa using h
theorem ok_moment_of (T : DefAt K mg "moment_of" s_moment_of ["day", "hour", "minute"]) (c_is_whole : FnC P w K mg base "is_whole" 1 1 phi_is_whole) (g_DAY : GlD K mg "DAY" d_DAY) (g_HOUR : GlD K mg "HOUR" d_HOUR) (x_NoMoment : ExCls K mg "NoMoment" a_NoMoment) (q_NoMoment : PySem.W.excIn K a_NoMoment veM "ValueError.__new__" = true) : FnC P w K mg base "moment_of" 2 3 (phi_moment_of a_NoMoment) := by
  refine def_ok T sc_moment_of (nk := nk_moment_of) rfl (by decide +kernel) rfl fun X W ds B S hl nb => ?_
  obtain ⟨y, m, d, rfl, hb⟩ := inv_VVV nb
  have hp := if_ok hb
  rw [timex_val hp]
  by_cases hw : isWhole y = true ∧ isWhole m = true ∧ isWhole d = true
  · obtain ⟨w1, w2, w3⟩ := hw
    obtain ⟨y, rfl⟩ := whole_int w1
    obtain ⟨m, rfl⟩ := whole_int w2
    obtain ⟨d, rfl⟩ := whole_int w3
    by_cases hv : (0 ≤ m ∧ m ≤ 23) ∧ 0 ≤ d ∧ d ≤ 59
    · refine ⟨.ret (.int (1440 * y + 60 * m + d)), ?_, by
        rw [show timeR a_NoMoment (.int y) (.int m) (.int d) = _ from if_pos hv]
        exact .ret _⟩
      refine xb_ifF ((xv_or (xt_not (xt_val (x_call B c_is_whole 3 (xa_cons (x_var B 0 0) xa_nil) (is_whole_val rfl)))) fun hq0 => (xv_or (xt_not (xt_val (x_call B c_is_whole 3 (xa_cons (x_var B 1 1) xa_nil) (is_whole_val rfl)))) fun hq1 => (xv_or1 (xt_not (xt_val (x_call B c_is_whole 3 (xa_cons (x_var B 2 2) xa_nil) (is_whole_val rfl)))))))).t rfl ?_
      refine xb_ifF ((xv_or (xt_not (t_chain xe_int (x_var B 1 1) (.le _ _) (fun hc => xe_int) (fun hc => (.le _ _)))) fun hq0 => (xv_or1 (xt_not (t_chain xe_int (x_var B 2 2) (.le _ _) (fun hc => xe_int) (fun hc => (.le _ _))))))).t (by simp [hv.1.1, hv.1.2, hv.2.1, hv.2.2]) ?_
      exact x_ret (x_bin (x_bin (x_bin (x_gd B 5 g_DAY) (x_var B 0 0) (.mulI _ _ (.inl (by omega)))) (x_bin (x_gd B 6 g_HOUR) (x_var B 1 1) (.mulI _ _ (.inl (by omega)))) (by first | exact .addI _ _ | exact .catS _ _ (by first | assumption | omega | decide))) (x_var B 2 2) (by first | exact .addI _ _ | exact .catS _ _ (by first | assumption | omega | decide)))
    · rw [show timeR a_NoMoment (.int y) (.int m) (.int d) = .exc a_NoMoment [] [] from if_neg hv]
      refine ⟨.exc a_NoMoment [] [] (startE N_moment_of [.int y, .int m, .int d]), ?_, .exc _ _ _ _⟩
      refine xb_ifF ((xv_or (xt_not (xt_val (x_call B c_is_whole 3 (xa_cons (x_var B 0 0) xa_nil) (is_whole_val rfl)))) fun hq0 => (xv_or (xt_not (xt_val (x_call B c_is_whole 3 (xa_cons (x_var B 1 1) xa_nil) (is_whole_val rfl)))) fun hq1 => (xv_or1 (xt_not (xt_val (x_call B c_is_whole 3 (xa_cons (x_var B 2 2) xa_nil) (is_whole_val rfl)))))))).t rfl ?_
      refine xb_if ((xv_or (xt_not (t_chain xe_int (x_var B 1 1) (.le _ _) (fun hc => xe_int) (fun hc => (.le _ _)))) fun hq0 => (xv_or1 (xt_not (t_chain xe_int (x_var B 2 2) (.le _ _) (fun hc => xe_int) (fun hc => (.le _ _))))))).t (fun _ => ⟨x_raise B S x_NoMoment q_NoMoment 4, trivial⟩) fun h => ?_
      refine absurd ?_ hv
      simp at h
      omega
  · rw [time_odd hw]
    refine ⟨.exc a_NoMoment [] [] (startE N_moment_of [y, m, d]), ?_, .exc _ _ _ _⟩
    refine xb_if ((xv_or (xt_not (xt_val (x_call B c_is_whole 3 (xa_cons (x_var B 0 0) xa_nil) (is_whole_val hp.1)))) fun hq0 => (xv_or (xt_not (xt_val (x_call B c_is_whole 3 (xa_cons (x_var B 1 1) xa_nil) (is_whole_val hp.2.1)))) fun hq1 => (xv_or1 (xt_not (xt_val (x_call B c_is_whole 3 (xa_cons (x_var B 2 2) xa_nil) (is_whole_val hp.2.2)))))))).t (fun _ => ⟨x_raise B S x_NoMoment q_NoMoment 4, trivial⟩) fun h => ?_
    refine absurd ?_ hw
    simpa using h
theorem ok_year_in (T : DefAt K mg "year_in" s_year_in ["text"]) (c_only_figures : FnC P w K mg base "only_figures" 1 1 phi_only_figures) (m_len : mg "len" = none) (m_int : mg "int" = none) (g_MOST_FIGURES : GlD K mg "MOST_FIGURES" d_MOST_FIGURES) (x_NoMoment : ExCls K mg "NoMoment" a_NoMoment) (q_NoMoment : PySem.W.excIn K a_NoMoment veM "ValueError.__new__" = true) : FnC P w K mg base "year_in" 2 1 (phi_year_in a_NoMoment) := by
  refine def_ok T sc_year_in (nk := nk_year_in) rfl (by decide +kernel) rfl fun X W ds B S hl nb => ?_
  obtain ⟨l, rfl, hb⟩ := inv_T nb
  have hl := if_ok hb
  rw [year_valR hl]
  have hf : (figP l).length ≤ 100000 := by
    unfold figP
    split
    · rw [List.length_drop]
      omega
    · exact hl
  have st : ∀ o, XB X W [.val (.tx l), .val (.tx (figP l))] ((defBody s_year_in).drop 2) o → XB X W (startE N_year_in [.tx l]) (defBody s_year_in) o := fun o ho => by
    refine (x_setE B S 1 1 (ρ1 := [_, _]) (x_var B 0 0) rfl ?_)
    refine xb_ifm (ρ1 := [.val (.tx l), .val (.tx (figP l))]) (t_eqT (x_sliceT (x_var B 0 0) xp_none (xp_some xe_int) (by omega)) (x_lit [45])) (fun h => ?_) (fun h => ?_) ho
    · have h' : l.take 1 = [45] := by
        have := of_decide_eq_true h
        rwa [cut_one] at this
      rw [show figP l = l.drop 1 from if_pos h']
      exact x_setE B S 1 1 (d := .tx (l.drop 1)) (ρ1 := [_, _]) ((x_sliceT (x_var B 0 0) (xp_some xe_int) xp_none (by omega)).is (by rw [cut_rest])) rfl xb_nil
    · have h' : ¬ l.take 1 = [45] := by
        have := of_decide_eq_false h
        rwa [cut_one] at this
      rw [show figP l = l from if_neg h']
      exact xb_nil
  have e40 : (!onlyF (figP l) || decide ((((figP l).length : Nat) : Int) > 50)) = (!onlyF (figP l) || decide (50 < (figP l).length)) := by
    congr 1
    rw [decide_eq_decide]
    omega
  by_cases q : (!onlyF (figP l) || decide (50 < (figP l).length)) = true
  · have e : yearR a_NoMoment l = .exc a_NoMoment [] [] := by
      unfold yearR yearM
      rw [if_pos q]
    rw [e]
    refine ⟨.exc a_NoMoment [] [] [.val (.tx l), .val (.tx (figP l))], st _ ?_, .exc _ _ _ _⟩
    exact xb_ifT ((xv_or (xt_not (xt_val (x_call B c_only_figures 2 (xa_cons (x_var B 1 1) xa_nil) rfl))) fun hq0 => (xv_or1 (xt_cmpv (x_lenT B 3 m_len (x_var B 1 1) (by omega)) (x_gd B 4 g_MOST_FIGURES) (.gt _ _))))).t (e40.trans q) (x_raise B S x_NoMoment q_NoMoment 5) trivial
  have q' := Bool.eq_false_iff.mpr q
  simp only [Bool.or_eq_false_iff, Bool.not_eq_false', decide_eq_false_iff_not] at q'
  obtain ⟨t1, t2⟩ := year_text q'.1 (by omega)
  have e4 : (!onlyF (figP l) || decide (50 < (figP l).length)) = false := Bool.eq_false_iff.mpr q
  by_cases r : (decide ((figP l).headD 0 = 48) && !decide (l = [48])) = true
  · have e : yearR a_NoMoment l = .exc a_NoMoment [] [] := by
      unfold yearR yearM
      rw [if_neg q, if_pos r]
    rw [e]
    refine ⟨.exc a_NoMoment [] [] [.val (.tx l), .val (.tx (figP l))], st _ ?_, .exc _ _ _ _⟩
    exact xb_ifF ((xv_or (xt_not (xt_val (x_call B c_only_figures 2 (xa_cons (x_var B 1 1) xa_nil) rfl))) fun hq0 => (xv_or1 (xt_cmpv (x_lenT B 3 m_len (x_var B 1 1) (by omega)) (x_gd B 4 g_MOST_FIGURES) (.gt _ _))))).t (e40.trans e4) (xb_ifT ((xv_and (t_eqT (x_ixC (x_var B 1 1) xe_int (onlyF_at (by rw [q'.1]; rfl)) (by omega)) (x_lit [48])) fun hq0 => (xv_and1 (t_neT (x_var B 0 0) (x_lit [48]))))).t (by rw [← r, head_one]) (x_raise B S x_NoMoment q_NoMoment 5) trivial)
  · refine ⟨.ret (.int (if l.take 1 = [45] then -((digitsVal (figP l) : Nat) : Int) else ((digitsVal (figP l) : Nat) : Int))), st _ ?_, by
      rw [show yearR a_NoMoment l = .val (.int (if l.take 1 = [45] then -((digitsVal (figP l) : Nat) : Int) else ((digitsVal (figP l) : Nat) : Int))) by
        unfold yearR yearM
        rw [if_neg q, if_neg r]]
      exact .ret _⟩
    refine xb_ifF ((xv_or (xt_not (xt_val (x_call B c_only_figures 2 (xa_cons (x_var B 1 1) xa_nil) rfl))) fun hq0 => (xv_or1 (xt_cmpv (x_lenT B 3 m_len (x_var B 1 1) (by omega)) (x_gd B 4 g_MOST_FIGURES) (.gt _ _))))).t (e40.trans e4) ?_
    refine xb_ifF ((xv_and (t_eqT (x_ixC (x_var B 1 1) xe_int (onlyF_at (by rw [q'.1]; rfl)) (by omega)) (x_lit [48])) fun hq0 => (xv_and1 (t_neT (x_var B 0 0) (x_lit [48]))))).t (by rw [← Bool.eq_false_iff.mpr r, head_one]) ?_
    exact x_ret (x_intT B 6 m_int (x_var B 0 0) t1 (by omega))
theorem ok_read_moment (T : DefAt K mg "read_moment" s_read_moment ["text"]) (c_only_figures : FnC P w K mg base "only_figures" 1 1 phi_only_figures) (c_year_in : FnC P w K mg base "year_in" 2 1 (phi_year_in a_NoMoment)) (c_day_of : FnC P w K mg base "day_of" 3 3 (phi_day_of a_NoDay)) (c_moment_of : FnC P w K mg base "moment_of" 2 3 (phi_moment_of a_NoMoment)) (m_isinstance : mg "isinstance" = none) (m_str : mg "str" = none) (m_len : mg "len" = none) (m_int : mg "int" = none) (g_TAIL : GlD K mg "TAIL" d_TAIL) (x_NoMoment : ExCls K mg "NoMoment" a_NoMoment) (x_NoDay : ExCls K mg "NoDay" a_NoDay) (q_NoMoment : PySem.W.excIn K a_NoMoment veM "ValueError.__new__" = true) (f_day : PySem.W.subIn K (.ref a_NoDay) (.ref a_NoDay) = some true) : FnL P w K mg base "read_moment" 4 1 (phi_readM a_NoMoment) := by
  refine def_okL T sc_read_moment (nk := nk_read_moment) rfl (by decide +kernel) rfl fun X W ds B S L hl nb => ?_
  clear hl
  rcases inv_readM nb with ⟨l, rfl, hl⟩ | ⟨d, rfl, hd⟩
  rotate_left
  · rw [readM_odd hd]
    refine ⟨.exc a_NoMoment [] [] [.val d, .no, .no, .no, .no], ?_, .exc _ _ _ _⟩
    cases d with
    | v x => cases x with
      | non => exact xb_ifT (XV.t (xv_orT (xt_not (xt_val (x_isi B 5 6 m_isinstance (x_var B 0 0) (x_cls B 6 m_str boot_str) (.ty _) (by first | exact .int _ | exact .bl _ | exact .str _ | exact .tup _ | exact .lst _ | exact .non | exact .dct _ _) kit_is))) (by rfl))) rfl (x_raise B S x_NoMoment q_NoMoment 9) trivial
      | bl b => exact xb_ifT (XV.t (xv_orT (xt_not (xt_val (x_isi B 5 6 m_isinstance (x_var B 0 0) (x_cls B 6 m_str boot_str) (.ty _) (by first | exact .int _ | exact .bl _ | exact .str _ | exact .tup _ | exact .lst _ | exact .non | exact .dct _ _) kit_is))) (by rfl))) rfl (x_raise B S x_NoMoment q_NoMoment 9) trivial
      | int i => exact xb_ifT (XV.t (xv_orT (xt_not (xt_val (x_isi B 5 6 m_isinstance (x_var B 0 0) (x_cls B 6 m_str boot_str) (.ty _) (by first | exact .int _ | exact .bl _ | exact .str _ | exact .tup _ | exact .lst _ | exact .non | exact .dct _ _) kit_is))) (by rfl))) rfl (x_raise B S x_NoMoment q_NoMoment 9) trivial
      | str z => cases hd
      | _ => cases hd
    | lst m => exact xb_ifT (XV.t (xv_orT (xt_not (xt_val (x_isi B 5 6 m_isinstance (x_var B 0 0) (x_cls B 6 m_str boot_str) (.ty _) (by first | exact .int _ | exact .bl _ | exact .str _ | exact .tup _ | exact .lst _ | exact .non | exact .dct _ _) kit_is))) (by rfl))) rfl (x_raise B S x_NoMoment q_NoMoment 9) trivial
    | tup m => exact xb_ifT (XV.t (xv_orT (xt_not (xt_val (x_isi B 5 6 m_isinstance (x_var B 0 0) (x_cls B 6 m_str boot_str) (.ty _) (by first | exact .int _ | exact .bl _ | exact .str _ | exact .tup _ | exact .lst _ | exact .non | exact .dct _ _) kit_is))) (by rfl))) rfl (x_raise B S x_NoMoment q_NoMoment 9) trivial
    | dct ks m => exact xb_ifT (XV.t (xv_orT (xt_not (xt_val (x_isi B 5 6 m_isinstance (x_var B 0 0) (x_cls B 6 m_str boot_str) (.ty _) (by first | exact .int _ | exact .bl _ | exact .str _ | exact .tup _ | exact .lst _ | exact .non | exact .dct _ _) kit_is))) (by rfl))) rfl (x_raise B S x_NoMoment q_NoMoment 9) trivial
    | _ => cases hd
  rw [readM_tx hl]
  show ∃ o, XB X W _ _ o ∧ Leads o (readR a_NoMoment (.exc a_NoMoment [] []) l)
  by_cases h12 : l.length ≤ 12
  · rw [show readR a_NoMoment (.exc a_NoMoment [] []) l = .exc a_NoMoment [] [] from if_pos h12]
    exact ⟨_, xb_ifT ((xv_or (xt_not (xt_val (x_isi B 5 6 m_isinstance (x_var B 0 0) (x_cls B 6 m_str boot_str) (.ty _) (by first | exact .int _ | exact .bl _ | exact .str _ | exact .tup _ | exact .lst _ | exact .non | exact .dct _ _) kit_is))) fun hq0 => (xv_or1 (xt_cmpv (x_lenT B 7 m_len (x_var B 0 0) (by omega)) (x_gd B 8 g_TAIL) (.le _ _))))).t (by simp; omega) (x_raise B S x_NoMoment q_NoMoment 9) trivial, .exc _ _ _ _⟩
  obtain ⟨y, t0, t1, t2, t3, t4, t5, t6, t7, t8, t9, t10, t11, rfl, hy⟩ := tail12 (Nat.lt_of_not_le h12)
  rw [read_app rfl hy]
  have hyl : y.length ≤ 100000 := by
    rw [List.length_append] at hl
    omega
  have c1 := cut_last (y := y) (t := [t0, t1, t2, t3, t4, t5, t6, t7, t8, t9, t10, t11]) rfl
  have c2 := cut_front (y := y) (t := [t0, t1, t2, t3, t4, t5, t6, t7, t8, t9, t10, t11]) rfl
  have st : ∀ o, XB X W [.val (.tx (y ++ [t0, t1, t2, t3, t4, t5, t6, t7, t8, t9, t10, t11])), .val (.tx [t0, t1, t2, t3, t4, t5, t6, t7, t8, t9, t10, t11]), .val (.tx [t1, t2, t4, t5, t7, t8, t10, t11]), .no, .no] ((defBody s_read_moment).drop 3) o → XB X W (startE N_read_moment [.tx (y ++ [t0, t1, t2, t3, t4, t5, t6, t7, t8, t9, t10, t11])]) (defBody s_read_moment) o := fun o ho => by
    refine xb_ifF ((xv_or (xt_not (xt_val (x_isi B 5 6 m_isinstance (x_var B 0 0) (x_cls B 6 m_str boot_str) (.ty _) (by first | exact .int _ | exact .bl _ | exact .str _ | exact .tup _ | exact .lst _ | exact .non | exact .dct _ _) kit_is))) fun hq0 => (xv_or1 (xt_cmpv (x_lenT B 7 m_len (x_var B 0 0) (by omega)) (x_gd B 8 g_TAIL) (.le _ _))))).t ?b1 ?_
    case b1 =>
      rw [decide_eq_false (by rw [List.length_append]; have := List.length_pos_iff.mpr hy; simp only [List.length_cons, List.length_nil]; omega)]
      rfl
    refine (x_setE B S 1 1 (d := .tx [t0, t1, t2, t3, t4, t5, t6, t7, t8, t9, t10, t11]) (ρ1 := [_, _, _, _, _]) ((x_sliceT (x_var B 0 0) (xp_some (xe_neg (x_gd B 8 g_TAIL))) xp_none (by omega)).is (congrArg D.tx c1)) rfl ?_)
    refine (x_setE B S 2 2 (d := .tx [t1, t2, t4, t5, t7, t8, t10, t11]) (ρ1 := [_, _, _, _, _]) ((x_cat (x_cat (x_cat (x_sliceT (x_var B 1 1) (xp_some xe_int) (xp_some xe_int) (by exact Nat.le_of_ble_eq_true rfl)) (x_sliceT (x_var B 1 1) (xp_some xe_int) (xp_some xe_int) (by exact Nat.le_of_ble_eq_true rfl)) (by exact Nat.le_of_ble_eq_true rfl)) (x_sliceT (x_var B 1 1) (xp_some xe_int) (xp_some xe_int) (by exact Nat.le_of_ble_eq_true rfl)) (by exact Nat.le_of_ble_eq_true rfl)) (x_sliceT (x_var B 1 1) (xp_some xe_int) xp_none (by exact Nat.le_of_ble_eq_true rfl)) (by exact Nat.le_of_ble_eq_true rfl)).is (by rfl)) rfl ?_)
    exact ho
  by_cases q : (!decide ([t0, t3, t6, t9] = [45, 45, 32, 58]) || !onlyF [t1, t2, t4, t5, t7, t8, t10, t11]) = true
  · have e0 : tailR a_NoMoment (.exc a_NoMoment [] []) y [t0, t1, t2, t3, t4, t5, t6, t7, t8, t9, t10, t11] = .exc a_NoMoment [] [] := if_pos q
    rw [e0]
    refine ⟨.exc a_NoMoment [] [] [.val (.tx (y ++ [t0, t1, t2, t3, t4, t5, t6, t7, t8, t9, t10, t11])), .val (.tx [t0, t1, t2, t3, t4, t5, t6, t7, t8, t9, t10, t11]), .val (.tx [t1, t2, t4, t5, t7, t8, t10, t11]), .no, .no], st _ ?_, .exc _ _ _ _⟩
    exact xb_ifT ((xv_or (t_neT (x_cat (x_cat (x_cat (x_ixC (x_var B 1 1) xe_int rfl (by exact Nat.le_of_ble_eq_true rfl)) (x_ixC (x_var B 1 1) xe_int rfl (by exact Nat.le_of_ble_eq_true rfl)) (by exact Nat.le_of_ble_eq_true rfl)) (x_ixC (x_var B 1 1) xe_int rfl (by exact Nat.le_of_ble_eq_true rfl)) (by exact Nat.le_of_ble_eq_true rfl)) (x_ixC (x_var B 1 1) xe_int rfl (by exact Nat.le_of_ble_eq_true rfl)) (by exact Nat.le_of_ble_eq_true rfl)) (x_lit [45, 45, 32, 58])) fun hq0 => (xv_or1 (xt_not (xt_val (x_call B c_only_figures 10 (xa_cons (x_var B 2 2) xa_nil) rfl)))))).t q (x_raise B S x_NoMoment q_NoMoment 9) trivial
  have q' := Bool.eq_false_iff.mpr q
  have hof : onlyF [t1, t2, t4, t5, t7, t8, t10, t11] = true := by
    simp only [Bool.or_eq_false_iff, Bool.not_eq_false'] at q'
    exact q'.2
  have e0 : tailR a_NoMoment (.exc a_NoMoment [] []) y [t0, t1, t2, t3, t4, t5, t6, t7, t8, t9, t10, t11] = _ := if_neg q
  rw [e0]
  cases ey : yearM y with
  | none =>
    have er : yearR a_NoMoment y = .exc a_NoMoment [] [] := by
      unfold yearR
      rw [ey]
    refine ⟨.exc a_NoMoment [] [] [.val (.tx (y ++ [t0, t1, t2, t3, t4, t5, t6, t7, t8, t9, t10, t11])), .val (.tx [t0, t1, t2, t3, t4, t5, t6, t7, t8, t9, t10, t11]), .val (.tx [t1, t2, t4, t5, t7, t8, t10, t11]), .no, .no], st _ ?_, .exc _ _ _ _⟩
    exact xb_ifF ((xv_or (t_neT (x_cat (x_cat (x_cat (x_ixC (x_var B 1 1) xe_int rfl (by exact Nat.le_of_ble_eq_true rfl)) (x_ixC (x_var B 1 1) xe_int rfl (by exact Nat.le_of_ble_eq_true rfl)) (by exact Nat.le_of_ble_eq_true rfl)) (x_ixC (x_var B 1 1) xe_int rfl (by exact Nat.le_of_ble_eq_true rfl)) (by exact Nat.le_of_ble_eq_true rfl)) (x_ixC (x_var B 1 1) xe_int rfl (by exact Nat.le_of_ble_eq_true rfl)) (by exact Nat.le_of_ble_eq_true rfl)) (x_lit [45, 45, 32, 58])) fun hq0 => (xv_or1 (xt_not (xt_val (x_call B c_only_figures 10 (xa_cons (x_var B 2 2) xa_nil) rfl)))))).t q' (x_setX B S 3 3 (x_callX B S c_year_in 11 (xa_cons (x_sliceT (x_var B 0 0) xp_none (xp_some (xe_neg (x_gd B 8 g_TAIL))) (by omega)) xa_nil) (by rw [c2]; exact (year_valR hyl).trans er)))
  | some yy =>
    have er : yearR a_NoMoment y = .val (.int yy) := by
      unfold yearR
      rw [ey]
    simp only
    have k1 : cutL [t1, t2, t4, t5, t7, t8, t10, t11] none (some 2) = [t1, t2] := rfl
    have k2 : cutL [t1, t2, t4, t5, t7, t8, t10, t11] (some 2) (some 4) = [t4, t5] := rfl
    have k3 : cutL [t1, t2, t4, t5, t7, t8, t10, t11] (some 4) (some 6) = [t7, t8] := rfl
    have k4 : cutL [t1, t2, t4, t5, t7, t8, t10, t11] (some 6) none = [t10, t11] := rfl
    have n1 := onlyF_int (only_sub (m := [t1, t2]) hof (by simp) (by simp +contextual)) (by simp)
    have n2 := onlyF_int (only_sub (m := [t4, t5]) hof (by simp) (by simp +contextual)) (by simp)
    have n3 := onlyF_int (only_sub (m := [t7, t8]) hof (by simp) (by simp +contextual)) (by simp)
    have n4 := onlyF_int (only_sub (m := [t10, t11]) hof (by simp) (by simp +contextual)) (by simp)
    generalize digitsVal [t1, t2] = mm at *
    generalize digitsVal [t4, t5] = dd at *
    generalize digitsVal [t7, t8] = hh at *
    generalize digitsVal [t10, t11] = mi at *
    by_cases hd : (1 ≤ (mm : Int) ∧ (mm : Int) ≤ 12) ∧ 1 ≤ (dd : Int) ∧ (dd : Int) ≤ lastOf yy mm
    · rw [if_pos hd]
      have st2 : ∀ o, XB X W [.val (.tx (y ++ [t0, t1, t2, t3, t4, t5, t6, t7, t8, t9, t10, t11])), .val (.tx [t0, t1, t2, t3, t4, t5, t6, t7, t8, t9, t10, t11]), .val (.tx [t1, t2, t4, t5, t7, t8, t10, t11]), .val (.int yy), .val (.int (dayNum yy mm dd))] ((defBody s_read_moment).drop 6) o → XB X W (startE N_read_moment [.tx (y ++ [t0, t1, t2, t3, t4, t5, t6, t7, t8, t9, t10, t11])]) (defBody s_read_moment) o := fun o ho => by
        refine st _ (xb_ifF ((xv_or (t_neT (x_cat (x_cat (x_cat (x_ixC (x_var B 1 1) xe_int rfl (by exact Nat.le_of_ble_eq_true rfl)) (x_ixC (x_var B 1 1) xe_int rfl (by exact Nat.le_of_ble_eq_true rfl)) (by exact Nat.le_of_ble_eq_true rfl)) (x_ixC (x_var B 1 1) xe_int rfl (by exact Nat.le_of_ble_eq_true rfl)) (by exact Nat.le_of_ble_eq_true rfl)) (x_ixC (x_var B 1 1) xe_int rfl (by exact Nat.le_of_ble_eq_true rfl)) (by exact Nat.le_of_ble_eq_true rfl)) (x_lit [45, 45, 32, 58])) fun hq0 => (xv_or1 (xt_not (xt_val (x_call B c_only_figures 10 (xa_cons (x_var B 2 2) xa_nil) rfl)))))).t q' ?_)
        refine (x_setE B S 3 3 (ρ1 := [_, _, _, _, _]) (x_call B c_year_in 11 (xa_cons (x_sliceT (x_var B 0 0) xp_none (xp_some (xe_neg (x_gd B 8 g_TAIL))) (by omega)) xa_nil) (by rw [c2]; exact (year_valR hyl).trans er)) rfl ?_)
        refine xb_cons (xs_tryOk B S x_NoDay 14 (fun Y W' B S eY => ?_) trivial) ho
        exact x_setE B S 4 4 (ρ1 := [_, _, _, _, _]) (x_call B c_day_of 12 (xa_cons (x_var B 3 3) (xa_cons (x_intT B 13 m_int (x_sliceT (x_var B 2 2) xp_none (xp_some xe_int) (by exact Nat.le_of_ble_eq_true rfl)) (by rw [k1]; exact n1) (by exact Nat.le_of_ble_eq_true rfl)) (xa_cons (x_intT B 13 m_int (x_sliceT (x_var B 2 2) (xp_some xe_int) (xp_some xe_int) (by exact Nat.le_of_ble_eq_true rfl)) (by rw [k2]; exact n2) (by exact Nat.le_of_ble_eq_true rfl)) xa_nil))) (day_ok hd)) rfl xb_nil
      by_cases ht : (0 ≤ (hh : Int) ∧ (hh : Int) ≤ 23) ∧ 0 ≤ (mi : Int) ∧ (mi : Int) ≤ 59
      · rw [if_pos ht]
        refine ⟨.ret _, st2 _ ?_, .ret _⟩
        exact x_ret (x_call B c_moment_of 15 (xa_cons (x_var B 4 4) (xa_cons (x_intT B 13 m_int (x_sliceT (x_var B 2 2) (xp_some xe_int) (xp_some xe_int) (by exact Nat.le_of_ble_eq_true rfl)) (by rw [k3]; exact n3) (by exact Nat.le_of_ble_eq_true rfl)) (xa_cons (x_intT B 13 m_int (x_sliceT (x_var B 2 2) (xp_some xe_int) xp_none (by exact Nat.le_of_ble_eq_true rfl)) (by rw [k4]; exact n4) (by exact Nat.le_of_ble_eq_true rfl)) xa_nil))) (moment_ok ht))
      · rw [if_neg ht]
        refine ⟨.exc a_NoMoment [] [] [.val (.tx (y ++ [t0, t1, t2, t3, t4, t5, t6, t7, t8, t9, t10, t11])), .val (.tx [t0, t1, t2, t3, t4, t5, t6, t7, t8, t9, t10, t11]), .val (.tx [t1, t2, t4, t5, t7, t8, t10, t11]), .val (.int yy), .val (.int (dayNum yy mm dd))], st2 _ ?_, .exc _ _ _ _⟩
        exact x_retX (x_callX B S c_moment_of 15 (xa_cons (x_var B 4 4) (xa_cons (x_intT B 13 m_int (x_sliceT (x_var B 2 2) (xp_some xe_int) (xp_some xe_int) (by exact Nat.le_of_ble_eq_true rfl)) (by rw [k3]; exact n3) (by exact Nat.le_of_ble_eq_true rfl)) (xa_cons (x_intT B 13 m_int (x_sliceT (x_var B 2 2) (xp_some xe_int) xp_none (by exact Nat.le_of_ble_eq_true rfl)) (by rw [k4]; exact n4) (by exact Nat.le_of_ble_eq_true rfl)) xa_nil))) (moment_bad ht))
    · rw [if_neg hd]
      refine ⟨.exc a_NoMoment [] [] [.val (.tx (y ++ [t0, t1, t2, t3, t4, t5, t6, t7, t8, t9, t10, t11])), .val (.tx [t0, t1, t2, t3, t4, t5, t6, t7, t8, t9, t10, t11]), .val (.tx [t1, t2, t4, t5, t7, t8, t10, t11]), .val (.int yy), .no], st _ (xb_ifF ((xv_or (t_neT (x_cat (x_cat (x_cat (x_ixC (x_var B 1 1) xe_int rfl (by exact Nat.le_of_ble_eq_true rfl)) (x_ixC (x_var B 1 1) xe_int rfl (by exact Nat.le_of_ble_eq_true rfl)) (by exact Nat.le_of_ble_eq_true rfl)) (x_ixC (x_var B 1 1) xe_int rfl (by exact Nat.le_of_ble_eq_true rfl)) (by exact Nat.le_of_ble_eq_true rfl)) (x_ixC (x_var B 1 1) xe_int rfl (by exact Nat.le_of_ble_eq_true rfl)) (by exact Nat.le_of_ble_eq_true rfl)) (x_lit [45, 45, 32, 58])) fun hq0 => (xv_or1 (xt_not (xt_val (x_call B c_only_figures 10 (xa_cons (x_var B 2 2) xa_nil) rfl)))))).t q' ?_), .exc _ _ _ _⟩
      refine (x_setE B S 3 3 (ρ1 := [_, _, _, _, _]) (x_call B c_year_in 11 (xa_cons (x_sliceT (x_var B 0 0) xp_none (xp_some (xe_neg (x_gd B 8 g_TAIL))) (by omega)) xa_nil) (by rw [c2]; exact (year_valR hyl).trans er)) rfl ?_)
      exact xb_stop (xs_tryR (ns := []) (xs := []) B S L x_NoDay 14 (fun Y W' B S eY => x_setX B S 4 4 (x_callX B S c_day_of 12 (xa_cons (x_var B 3 3) (xa_cons (x_intT B 13 m_int (x_sliceT (x_var B 2 2) xp_none (xp_some xe_int) (by exact Nat.le_of_ble_eq_true rfl)) (by rw [k1]; exact n1) (by exact Nat.le_of_ble_eq_true rfl)) (xa_cons (x_intT B 13 m_int (x_sliceT (x_var B 2 2) (xp_some xe_int) (xp_some xe_int) (by exact Nat.le_of_ble_eq_true rfl)) (by rw [k2]; exact n2) (by exact Nat.le_of_ble_eq_true rfl)) xa_nil))) (day_bad hd))) (PySem.W.exm_ref x_NoDay.sub x_NoDay.hd x_NoDay.ty f_day) (fun Y Hh => x_raiseS Hh x_NoMoment q_NoMoment 9)) trivial
theorem ok_law_cell_at (T : DefAt K mg "_law_cell_at" s_law_cell_at ["_law_script", "_law_k"]) (m_len : mg "len" = none) : FnC P w K mg base "_law_cell_at" 1 2 phi_law_cell_at := by
  refine def_ok T sc_law_cell_at (nk := nk_law_cell_at) rfl (by decide +kernel) rfl fun X W ds B S hl nb => ?_
  obtain ⟨l, k, rfl, hb⟩ := inv_LI nb
  have hk := if_ok hb
  refine ⟨.ret (l.getD k.toNat (.int 0)), ?_, by
    show Leads _ (if 0 ≤ k then Ro.val (l.getD k.toNat (.int 0)) else .bad)
    rw [if_pos hk]
    exact .ret _⟩
  refine xb_if (xt_cmpv (x_var B 1 1) (x_len B 2 m_len (x_var B 0 0) (by first | exact .lst _ | exact .tup _ | exact .str _ (by first | assumption | omega | decide))) (.lt _ _)) (fun h => ⟨x_ret (x_ix (x_var B 0 0) (x_var B 1 1) (.lst _ _ _ ?ix)), trivial⟩) fun h => (x_ret xe_int).is ?_
  case ix =>
    simp only [decide_eq_true_eq] at h
    have hlt : k.toNat < l.length := by omega
    exact ix_nat hk (by rw [List.getD_eq_getElem?_getD, List.getElem?_eq_getElem hlt]; rfl)
  simp only [decide_eq_false_iff_not] at h
  have hlt : l.length ≤ k.toNat := by omega
  simp [hlt]
theorem ok_law_whole (T : DefAt K mg "_law_whole" s_law_whole ["_law_found"]) (m_isinstance : mg "isinstance" = none) (m_int : mg "int" = none) (m_bool : mg "bool" = none) : FnC P w K mg base "_law_whole" 1 1 phi_law_whole := by
  refine def_ok T sc_law_whole (nk := nk_law_whole) rfl (by decide +kernel) rfl fun X W ds B S hl nb => ?_
  obtain ⟨d, rfl, hb⟩ := inv_V nb
  split at hb
  · exact ⟨_, x_ret (xe_andV (x_isi B 1 2 m_isinstance (x_var B 0 0) (x_cls B 2 m_int boot_int) (.ty _) (by first | exact .int _ | exact .bl _ | exact .str _ | exact .tup _ | exact .lst _ | exact .non | exact .dct _ _) kit_is) fun hq0 => (xe_one (xe_notV (x_isi B 1 3 m_isinstance (x_var B 0 0) (x_cls B 3 m_bool boot_bool) (.ty _) (by first | exact .int _ | exact .bl _ | exact .str _ | exact .tup _ | exact .lst _ | exact .non | exact .dct _ _) kit_is)))), .ret _⟩
  · exact ⟨_, x_ret (xe_andV (x_isi B 1 2 m_isinstance (x_var B 0 0) (x_cls B 2 m_int boot_int) (.ty _) (by first | exact .int _ | exact .bl _ | exact .str _ | exact .tup _ | exact .lst _ | exact .non | exact .dct _ _) kit_is) fun hq0 => (xe_one (xe_notV (x_isi B 1 3 m_isinstance (x_var B 0 0) (x_cls B 3 m_bool boot_bool) (.ty _) (by first | exact .int _ | exact .bl _ | exact .str _ | exact .tup _ | exact .lst _ | exact .non | exact .dct _ _) kit_is)))), .ret _⟩
  · exact ⟨_, x_ret (xe_andV (x_isi B 1 2 m_isinstance (x_var B 0 0) (x_cls B 2 m_int boot_int) (.ty _) (by first | exact .int _ | exact .bl _ | exact .str _ | exact .tup _ | exact .lst _ | exact .non | exact .dct _ _) kit_is) fun hq0 => (xe_one (xe_notV (x_isi B 1 3 m_isinstance (x_var B 0 0) (x_cls B 3 m_bool boot_bool) (.ty _) (by first | exact .int _ | exact .bl _ | exact .str _ | exact .tup _ | exact .lst _ | exact .non | exact .dct _ _) kit_is)))), .ret _⟩
  · exact ⟨_, x_ret (xe_andV (x_isi B 1 2 m_isinstance (x_var B 0 0) (x_cls B 2 m_int boot_int) (.ty _) (by first | exact .int _ | exact .bl _ | exact .str _ | exact .tup _ | exact .lst _ | exact .non | exact .dct _ _) kit_is) fun hq0 => (xe_one (xe_notV (x_isi B 1 3 m_isinstance (x_var B 0 0) (x_cls B 3 m_bool boot_bool) (.ty _) (by first | exact .int _ | exact .bl _ | exact .str _ | exact .tup _ | exact .lst _ | exact .non | exact .dct _ _) kit_is)))), .ret _⟩
  · exact ⟨_, x_ret (xe_andV (x_isi B 1 2 m_isinstance (x_var B 0 0) (x_cls B 2 m_int boot_int) (.ty _) (by first | exact .int _ | exact .bl _ | exact .str _ | exact .tup _ | exact .lst _ | exact .non | exact .dct _ _) kit_is) fun hq0 => (xe_one (xe_notV (x_isi B 1 3 m_isinstance (x_var B 0 0) (x_cls B 3 m_bool boot_bool) (.ty _) (by first | exact .int _ | exact .bl _ | exact .str _ | exact .tup _ | exact .lst _ | exact .non | exact .dct _ _) kit_is)))), .ret _⟩
  · exact ⟨_, x_ret (xe_andV (x_isi B 1 2 m_isinstance (x_var B 0 0) (x_cls B 2 m_int boot_int) (.ty _) (by first | exact .int _ | exact .bl _ | exact .str _ | exact .tup _ | exact .lst _ | exact .non | exact .dct _ _) kit_is) fun hq0 => (xe_one (xe_notV (x_isi B 1 3 m_isinstance (x_var B 0 0) (x_cls B 3 m_bool boot_bool) (.ty _) (by first | exact .int _ | exact .bl _ | exact .str _ | exact .tup _ | exact .lst _ | exact .non | exact .dct _ _) kit_is)))), .ret _⟩
  · exact absurd rfl hb
theorem ok_law_long (T : DefAt K mg "_law_long" s_law_long ["_law_year"]) : FnC P w K mg base "_law_long" 1 1 phi_law_long := by
  refine def_ok T sc_law_long (nk := nk_law_long) rfl (by decide +kernel) rfl fun X W ds B S hl nb => ?_
  obtain ⟨y, rfl, hb⟩ := inv_I nb
  exact ⟨_, x_ret (xe_andV (xe_cmp (x_bin (x_var B 0 0) xe_int (.modI _ _ (by decide))) xe_int (by first | exact .eqI _ _ | exact .eqS _ _ | exact .eqB _ _)) fun hq0 => (xe_one (xe_orV (xe_cmp (x_bin (x_var B 0 0) xe_int (.modI _ _ (by decide))) xe_int (by first | exact .neI _ _ | exact .neS _ _ | exact .neB _ _)) fun hq0 => (xe_one (xe_cmp (x_bin (x_var B 0 0) xe_int (.modI _ _ (by decide))) xe_int (by first | exact .eqI _ _ | exact .eqS _ _ | exact .eqB _ _)))))), .ret _⟩
theorem ok_law_last (T : DefAt K mg "_law_last" s_law_last ["_law_year", "_law_month"]) (c_law_long : FnC P w K mg base "_law_long" 1 1 phi_law_long) (m_int : mg "int" = none) : FnC P w K mg base "_law_last" 2 2 phi_law_last := by
  refine def_ok T sc_law_last (nk := nk_law_last) rfl (by decide +kernel) rfl fun X W ds B S hl nb => ?_
  obtain ⟨y, m, rfl, hb⟩ := inv_II nb
  have hm := if_ok hb
  refine ⟨.ret (.int (lastOf y m)), ?_, by
    rw [lawlast_val hm]
    exact .ret _⟩
  refine xb_if (xt_cmpv (x_var B 1 1) xe_int (by first | exact .eqI _ _ | exact .eqS _ _ | exact .eqB _ _)) (fun h => ⟨(x_ret (x_bin xe_int (x_intB B 2 m_int (x_call B c_law_long 3 (xa_cons (x_var B 0 0) xa_nil) rfl)) (by first | exact .addI _ _ | exact .catS _ _ (by first | assumption | omega | decide)))).is ?a, trivial⟩) fun h => x_ret (x_ix (xo_lst (xa_cons xe_int (xa_cons xe_int (xa_cons xe_int (xa_cons xe_int (xa_cons xe_int (xa_cons xe_int (xa_cons xe_int (xa_cons xe_int (xa_cons xe_int (xa_cons xe_int (xa_cons xe_int (xa_cons xe_int xa_nil))))))))))))).dat (x_bin (x_var B 1 1) xe_int (.subI _ _)) (.lst _ _ _ (lasts_ix hm.1 hm.2 ?b)))
  case a =>
    simp only [decide_eq_true_eq] at h
    subst h
    unfold lastOf
    cases isLong y <;> rfl
  case b =>
    intro q
    subst q
    simp at h
theorem ok_law_two (T : DefAt K mg "_law_two" s_law_two ["_law_number"]) (m_str : mg "str" = none) : FnC P w K mg base "_law_two" 1 1 phi_law_two := by
  refine def_ok T sc_law_two (nk := nk_law_two) rfl (by decide +kernel) rfl fun X W ds B S hl nb => ?_
  obtain ⟨n, rfl, hb⟩ := inv_I nb
  have hc := if_ok hb
  refine ⟨.ret (.tx (two n.toNat)), ?_, by
    rw [ltwo_val hc]
    exact .ret _⟩
  exact (x_ret (x_sliceT (x_strI B 1 m_str (x_bin xe_int (x_var B 0 0) (by first | exact .addI _ _ | exact .catS _ _ (by first | assumption | omega | decide))) (lgI (by omega))) (xp_some xe_int) xp_none (two_sz hc))).is (by rw [cut_two hc])
theorem ok_law_parts (T : DefAt K mg "_law_parts" s_law_parts ["_law_one", "_law_other"]) (c_law_last : FnC P w K mg base "_law_last" 2 2 phi_law_last) (c_law_two : FnC P w K mg base "_law_two" 1 1 phi_law_two) (m_str : mg "str" = none) : FnC P w K mg base "_law_parts" 3 2 phi_law_parts := by
  refine def_ok T sc_law_parts (nk := nk_law_parts) rfl (by decide +kernel) rfl fun X W ds B S hl nb => ?_
  obtain ⟨c, o, rfl, hb⟩ := inv_II nb
  refine ⟨.ret (.tup [.lst (txs (ptx c o)), .int (pL c o : Nat)]), ?_, .ret _⟩
  have q := pr_ok c o
  have hy := pY_lt c
  have eM : (1 : Int) + o % 12 = (pM o : Int) := by unfold pM; omega
  have hm : 1 ≤ (pM o : Int) ∧ (pM o : Int) ≤ 12 := ⟨q.m.2.1, q.m.2.2⟩
  have e2 : c / 7 % 2 = 0 ∨ c / 7 % 2 = 1 := by omega
  have z20 : (0 : Int) < 2 * 10 ^ Int.toNat 20 + 1 := by decide
  have i1 : atI [D.int 3001, .int (2 * 10 ^ Int.toNat 20 + 1)] (c / 7 % 2) = some (.int (if c / 7 % 2 = 0 then 3001 else 2 * 10 ^ Int.toNat 20 + 1)) := by
    rcases e2 with e | e <;> rw [e] <;> rfl
  have i2 : atI [D.int 500, .int (10 ^ Int.toNat 20)] (c / 7 % 2) = some (.int (if c / 7 % 2 = 0 then 500 else 10 ^ Int.toNat 20)) := by
    rcases e2 with e | e <;> rw [e] <;> rfl
  have ey : c % (if c / 7 % 2 = 0 then 3001 else 2 * 10 ^ Int.toNat 20 + 1) - (if c / 7 % 2 = 0 then 500 else 10 ^ Int.toNat 20) = pY c := by
    unfold pY
    split <;> rfl
  refine (x_setE B S 2 2 (d := .int (pY c)) (ρ1 := [_, _, _, _, _, _, _, _]) ((x_bin (x_bin (x_var B 0 0) (x_ix (xo_lst (xa_cons xe_int (xa_cons (x_bin (x_bin xe_int (x_bin xe_int xe_int (.powI _ _ ⟨by decide, by decide, by decide⟩)) (.mulI _ _ (.inl ⟨by decide, by decide⟩))) xe_int (by first | exact .addI _ _ | exact .catS _ _ (by first | assumption | omega | decide))) xa_nil))).dat (x_bin (x_bin (x_var B 0 0) xe_int (.divI _ _ ⟨by decide, by decide⟩)) xe_int (.modI _ _ (by decide))) (.lst _ _ _ i1)) (.modI _ _ (by split <;> omega))) (x_ix (xo_lst (xa_cons xe_int (xa_cons (x_bin xe_int xe_int (.powI _ _ ⟨by decide, by decide, by decide⟩)) xa_nil))).dat (x_bin (x_bin (x_var B 0 0) xe_int (.divI _ _ ⟨by decide, by decide⟩)) xe_int (.modI _ _ (by decide))) (.lst _ _ _ i2)) (.subI _ _)).is (congrArg D.int ey)) rfl ?_)
  refine (x_setE B S 3 3 (d := .int (pM o : Nat)) (ρ1 := [_, _, _, _, _, _, _, _]) ((x_bin xe_int (x_bin (x_var B 1 1) xe_int (.modI _ _ (by decide))) (by first | exact .addI _ _ | exact .catS _ _ (by first | assumption | omega | decide))).is (congrArg D.int eM)) rfl ?_)
  have hl0 : lastOf (pY c) (pM o) ≠ 0 := by have := q.l2; have := q.l.1; omega
  have eD : (1 : Int) + o / 12 % lastOf (pY c) (pM o) = (pD c o : Int) := by
    have := q.d.2
    have h1 := Int.emod_nonneg (o / 12) hl0
    unfold pD
    omega
  refine (x_setE B S 4 4 (d := .int (pD c o : Nat)) (ρ1 := [_, _, _, _, _, _, _, _]) ((x_bin xe_int (x_bin (x_bin (x_var B 1 1) xe_int (.divI _ _ ⟨by decide, by decide⟩)) (x_call B c_law_last 8 (xa_cons (x_var B 2 2) (xa_cons (x_var B 3 3) xa_nil)) (lawlast_val hm)) (.modI _ _ (by have := q.l2; have := q.l.1; omega))) (by first | exact .addI _ _ | exact .catS _ _ (by first | assumption | omega | decide))).is (congrArg D.int eD)) rfl ?_)
  refine (x_setE B S 5 5 (d := .int (pH o : Nat)) (ρ1 := [_, _, _, _, _, _, _, _]) ((x_bin (x_bin (x_var B 1 1) xe_int (.divI _ _ ⟨by decide, by decide⟩)) xe_int (.modI _ _ (by decide))).is (congrArg D.int (by unfold pH; omega))) rfl ?_)
  refine (x_setE B S 6 6 (d := .int (pI o : Nat)) (ρ1 := [_, _, _, _, _, _, _, _]) ((x_bin (x_bin (x_var B 1 1) xe_int (.divI _ _ ⟨by decide, by decide⟩)) xe_int (.modI _ _ (by decide))).is (congrArg D.int (by unfold pI; omega))) rfl ?_)
  have qm := q.m.1
  have qd := q.d.1
  have qh := q.h.1
  have qi := q.i.1
  refine (x_setOE B S 7 7 (ρ1 := [_, _, _, _, _, _, _, _]) (xo_lst (xa_cons (x_strI B 9 m_str (x_var B 2 2) (lgI (by omega))) (xa_cons (x_lit [45]) (xa_cons (x_call B c_law_two 10 (xa_cons (x_var B 3 3) xa_nil) (ltwo_val (by omega))) (xa_cons (x_lit [45]) (xa_cons (x_call B c_law_two 10 (xa_cons (x_var B 4 4) xa_nil) (ltwo_val (by omega))) xa_nil)))))) rfl ?_)
  exact (x_ret (xe_tup (xa_cons (x_catO (x_ownQ B 7 7) ((xo_lst (xa_cons (x_lit [32]) (xa_cons (x_call B c_law_two 10 (xa_cons (x_var B 5 5) xa_nil) (ltwo_val (by omega))) (xa_cons (x_lit [58]) (xa_cons (x_call B c_law_two 10 (xa_cons (x_var B 6 6) xa_nil) (ltwo_val (by omega))) xa_nil)))))).q (by exact Nat.le_of_ble_eq_true rfl)).dat (xa_cons (x_call B c_law_last 8 (xa_cons (x_var B 2 2) (xa_cons (x_var B 3 3) xa_nil)) (lawlast_val hm)) xa_nil)))).is (by rw [q.l.1]; rfl)
theorem ok_law_bad_number (T : DefAt K mg "_law_bad_number" s_law_bad_number ["_law_cell", "_law_out"]) : FnC P w K mg base "_law_bad_number" 1 2 phi_law_bad_number := by
  refine def_ok T sc_law_bad_number (nk := nk_law_bad_number) rfl (by decide +kernel) rfl fun X W ds B S hl nb => ?_
  obtain ⟨c, l, rfl, hl2⟩ : ∃ (c : Int) (l : List Nat), ds = [.int c, .tx l] ∧ l.length = 2 := by
    unfold phi_law_bad_number at nb
    split at nb
    · rename_i c z
      exact ⟨c, z.cps.toList, by rw [D.tx, ← ofTx], if_ok nb⟩
    · exact absurd rfl nb
  refine ⟨.ret (.tx (numO (c % 11).toNat l)), ?_, by
    rw [badn_val hl2]
    exact .ret _⟩
  have hk : c % 11 = ((c % 11).toNat : Int) := by omega
  refine x_ret (x_ix (xo_lst (xa_cons (x_var B 1 1) (xa_cons (x_lit [57, 57]) (xa_cons (x_lit [55]) (xa_cons (x_lit [48, 48, 55]) (xa_cons (x_lit [120, 49]) (xa_cons (x_lit [32, 55]) (xa_cons (x_lit [45, 49]) (xa_cons (x_lit []) (xa_cons (x_lit [49, 46]) (xa_cons (x_lit [55, 32]) (xa_cons (x_lit [43, 55]) xa_nil)))))))))))).dat (x_bin (x_var B 0 0) xe_int (.modI _ _ (by decide))) (.lst _ _ _ ?ix))
  case ix =>
    rw [hk]
    exact txs_ix (its := [l, [57, 57], [55], [48, 48, 55], [120, 49], [32, 55], [45, 49], [], [49, 46], [55, 32], [43, 55] ]) (by show (c % 11).toNat < 11; omega)
theorem ok_law_bad (T : DefAt K mg "_law_bad" s_law_bad ["_law_parts_here", "_law_last_here", "_law_at", "_law_cell"]) (c_law_bad_number : FnC P w K mg base "_law_bad_number" 1 2 phi_law_bad_number) (m_max : mg "max" = none) (m_str : mg "str" = none) : FnC P w K mg base "_law_bad" 2 4 phi_law_bad := by
  refine def_ok T sc_law_bad (nk := nk_law_bad) rfl (by decide +kernel) rfl fun X W ds B S hl nb => ?_
  obtain ⟨ps, last, a, c, rfl, ok, hla, ha⟩ := bad_inv nb
  refine ⟨.ret (.tx (badX (ps.getD 0 []) last a (nonneg c))), ?_, by
    rw [bad_val ok hla ha]
    exact .ret _⟩
  have i0 : atI (txs ps) 0 = some (.tx (ps.getD 0 [])) := txs_ix (k := 0) (by rw [ok.1]; decide)
  have h120 : (ps.getD 0 []).length ≤ 120 := by
    rw [List.getD_eq_getElem?_getD, List.getElem?_eq_getElem (by rw [ok.1]; decide)]
    exact ok.2 _ (List.getElem_mem _)
  generalize ps.getD 0 [] = x at *
  have hn := nn c
  generalize nonneg c = n at *
  by_cases a0 : a = 0
  · subst a0
    refine xb_ifT (xt_cmpv (x_var B 2 2) xe_int (by first | exact .eqI _ _ | exact .eqS _ _ | exact .eqB _ _)) rfl ?_ trivial
    refine (x_setOE B S 4 4 (ρ1 := [_, _, _, _, _, _]) (xo_lst (xa_cons (x_cat (x_lit [48]) (x_ix (x_var B 0 0) xe_int (.lst _ _ _ i0)) (by first | omega | (simp; done) | (simp; omega))) (xa_cons (x_cat (x_lit [43]) (x_ix (x_var B 0 0) xe_int (.lst _ _ _ i0)) (by first | omega | (simp; done) | (simp; omega))) (xa_cons (x_lit [45, 48]) (xa_cons (x_lit []) (xa_cons (x_lit [120]) (xa_cons (x_cat (x_ix (x_var B 0 0) xe_int (.lst _ _ _ i0)) (x_lit [32]) (by first | omega | (simp; done) | (simp; omega))) (xa_cons (x_repS (n := 51) (x_lit [49]) xe_int ⟨by decide, by decide, by decide⟩) (xa_cons (x_cat (x_lit [45]) (x_repS (n := 51) (x_lit [49]) xe_int ⟨by decide, by decide, by decide⟩) (by first | omega | (simp; done) | (simp; omega))) (xa_cons (x_lit [50, 48, 50, 52, 46]) xa_nil)))))))))) rfl ?_)
    refine (x_ret (x_ixQ ((x_catO (x_ownQ B 4 4) ((xo_lst (xa_cons (x_lit [50, 95, 48, 50, 52]) xa_nil))).q (by exact Nat.le_of_ble_eq_true rfl))).q (x_bin (x_var B 3 3) xe_int (.modI _ _ (by decide))) (by rw [show c % 10 = ((n % 10 : Nat) : Int) by omega]; exact txs_ix (its := [[48] ++ x, [43] ++ x, [45, 48], [], [120], x ++ [32], List.replicate 51 49, [45] ++ List.replicate 51 49, [50, 48, 50, 52, 46], [50, 95, 48, 50, 52] ]) (Nat.mod_lt _ (by decide))))).is rfl
  refine xb_ifF (xt_cmpv (x_var B 2 2) xe_int (by first | exact .eqI _ _ | exact .eqS _ _ | exact .eqB _ _)) (decide_eq_false (by omega)) ?_
  have eb : badX x last a n = optT last a n := if_neg a0
  rw [eb]
  by_cases o : a % 2 = 1
  · refine xb_ifT (xt_cmpv (x_bin (x_var B 2 2) xe_int (.modI _ _ (by decide))) xe_int (by first | exact .eqI _ _ | exact .eqS _ _ | exact .eqB _ _)) (decide_eq_true (by omega)) ?_ trivial
    have : a = 1 ∨ a = 3 ∨ a = 5 ∨ a = 7 := by omega
    rw [show optT last a n = sgnO a (n % 4) from if_pos o]
    rcases this with rfl | rfl | rfl | rfl
    · exact x_ret (x_ix (x_ix (xo_lst (xa_cons (xo_lst (xa_cons (x_lit [47]) (xa_cons (x_lit []) (xa_cons (x_lit [46]) (xa_cons (x_lit [43]) xa_nil))))).dat (xa_cons (xo_lst (xa_cons (x_lit [84]) (xa_cons (x_lit []) (xa_cons (x_lit [32, 32]) (xa_cons (x_lit [95]) xa_nil))))).dat (xa_cons (xo_lst (xa_cons (x_lit [46]) (xa_cons (x_lit []) (xa_cons (x_lit [32]) (xa_cons (x_lit [58, 58]) xa_nil))))).dat xa_nil)))).dat (x_max2 B 6 m_max xe_int (x_bin (x_bin (x_var B 2 2) xe_int (.divI _ _ ⟨by decide, by decide⟩)) xe_int (.subI _ _))) (.lst _ _ _ rfl)) (x_bin (x_var B 3 3) xe_int (.modI _ _ (by decide))) (.lst _ _ _ (by rw [show c % 4 = ((n % 4 : Nat) : Int) by omega]; exact txs_ix (its := [[47], [], [46], [43] ]) (Nat.mod_lt _ (by decide)))))
    · exact x_ret (x_ix (x_ix (xo_lst (xa_cons (xo_lst (xa_cons (x_lit [47]) (xa_cons (x_lit []) (xa_cons (x_lit [46]) (xa_cons (x_lit [43]) xa_nil))))).dat (xa_cons (xo_lst (xa_cons (x_lit [84]) (xa_cons (x_lit []) (xa_cons (x_lit [32, 32]) (xa_cons (x_lit [95]) xa_nil))))).dat (xa_cons (xo_lst (xa_cons (x_lit [46]) (xa_cons (x_lit []) (xa_cons (x_lit [32]) (xa_cons (x_lit [58, 58]) xa_nil))))).dat xa_nil)))).dat (x_max2 B 6 m_max xe_int (x_bin (x_bin (x_var B 2 2) xe_int (.divI _ _ ⟨by decide, by decide⟩)) xe_int (.subI _ _))) (.lst _ _ _ rfl)) (x_bin (x_var B 3 3) xe_int (.modI _ _ (by decide))) (.lst _ _ _ (by rw [show c % 4 = ((n % 4 : Nat) : Int) by omega]; exact txs_ix (its := [[47], [], [46], [43] ]) (Nat.mod_lt _ (by decide)))))
    · exact x_ret (x_ix (x_ix (xo_lst (xa_cons (xo_lst (xa_cons (x_lit [47]) (xa_cons (x_lit []) (xa_cons (x_lit [46]) (xa_cons (x_lit [43]) xa_nil))))).dat (xa_cons (xo_lst (xa_cons (x_lit [84]) (xa_cons (x_lit []) (xa_cons (x_lit [32, 32]) (xa_cons (x_lit [95]) xa_nil))))).dat (xa_cons (xo_lst (xa_cons (x_lit [46]) (xa_cons (x_lit []) (xa_cons (x_lit [32]) (xa_cons (x_lit [58, 58]) xa_nil))))).dat xa_nil)))).dat (x_max2 B 6 m_max xe_int (x_bin (x_bin (x_var B 2 2) xe_int (.divI _ _ ⟨by decide, by decide⟩)) xe_int (.subI _ _))) (.lst _ _ _ rfl)) (x_bin (x_var B 3 3) xe_int (.modI _ _ (by decide))) (.lst _ _ _ (by rw [show c % 4 = ((n % 4 : Nat) : Int) by omega]; exact txs_ix (its := [[84], [], [32, 32], [95] ]) (Nat.mod_lt _ (by decide)))))
    · exact x_ret (x_ix (x_ix (xo_lst (xa_cons (xo_lst (xa_cons (x_lit [47]) (xa_cons (x_lit []) (xa_cons (x_lit [46]) (xa_cons (x_lit [43]) xa_nil))))).dat (xa_cons (xo_lst (xa_cons (x_lit [84]) (xa_cons (x_lit []) (xa_cons (x_lit [32, 32]) (xa_cons (x_lit [95]) xa_nil))))).dat (xa_cons (xo_lst (xa_cons (x_lit [46]) (xa_cons (x_lit []) (xa_cons (x_lit [32]) (xa_cons (x_lit [58, 58]) xa_nil))))).dat xa_nil)))).dat (x_max2 B 6 m_max xe_int (x_bin (x_bin (x_var B 2 2) xe_int (.divI _ _ ⟨by decide, by decide⟩)) xe_int (.subI _ _))) (.lst _ _ _ rfl)) (x_bin (x_var B 3 3) xe_int (.modI _ _ (by decide))) (.lst _ _ _ (by rw [show c % 4 = ((n % 4 : Nat) : Int) by omega]; exact txs_ix (its := [[46], [], [32], [58, 58] ]) (Nat.mod_lt _ (by decide)))))
  refine xb_ifF (xt_cmpv (x_bin (x_var B 2 2) xe_int (.modI _ _ (by decide))) xe_int (by first | exact .eqI _ _ | exact .eqS _ _ | exact .eqB _ _)) (decide_eq_false (by omega)) ?_
  have el : intL ((last : Int) + 1) = two (last + 1) := by
    rw [show (last : Int) + 1 = ((last + 1 : Nat) : Int) by omega, intL_nat, numL_step (by omega), numL_lt (by omega)]
    rfl
  refine (x_setE B S 5 5 (ρ1 := [_, _, _, _, _, _]) (x_dct [(2, .lst (txs [two 13, two 0])), (4, .lst (txs [intL ((last : Int) + 1), two 0])), (6, .lst (txs [two 24, two 60])), (8, .lst (txs [two 60, two 61]))] (pps_cons xe_int (xo_lst (xa_cons (x_lit [49, 51]) (xa_cons (x_lit [48, 48]) xa_nil))).dat (pps_cons xe_int (xo_lst (xa_cons (x_strI B 7 m_str (x_bin (x_var B 1 1) xe_int (by first | exact .addI _ _ | exact .catS _ _ (by first | assumption | omega | decide))) (lgI (by omega))) (xa_cons (x_lit [48, 48]) xa_nil))).dat (pps_cons xe_int (xo_lst (xa_cons (x_lit [50, 52]) (xa_cons (x_lit [54, 48]) xa_nil))).dat (pps_cons xe_int (xo_lst (xa_cons (x_lit [54, 48]) (xa_cons (x_lit [54, 49]) xa_nil))).dat pps_nil)))) (fun vs h => match vs, h with | [_, _, _, _], _ => rfl)) rfl ?_)
  rw [el]
  rw [show optT last a n = numO (n / 2 % 11) (two (outN last a (n % 2))) from if_neg o]
  have e11 : c / 2 % 11 = ((n / 2 % 11 : Nat) : Int) := by omega
  have e11' : (c / 2 % 11).toNat = n / 2 % 11 := by omega
  have i2 : ∀ (p q : List Nat), atI (txs [p, q]) (c % 2) = some (.tx (if n % 2 = 0 then p else q)) := fun p q => by
    have : n % 2 = 0 ∨ n % 2 = 1 := by omega
    rw [show c % 2 = ((n % 2 : Nat) : Int) by omega]
    rcases this with e | e <;> rw [e] <;> rfl
  have v : ∀ (l : List Nat), l.length = 2 → phi_law_bad_number [.int (c / 2), .tx l] = .val (.tx (numO (n / 2 % 11) l)) := fun l h => by
    rw [badn_val h, e11']
  have : a = 2 ∨ a = 4 ∨ a = 6 ∨ a = 8 := by omega
  rcases this with rfl | rfl | rfl | rfl
  · refine (x_ret (x_call B c_law_bad_number 8 (xa_cons (x_bin (x_var B 3 3) xe_int (.divI _ _ ⟨by decide, by decide⟩)) (xa_cons (x_ix (x_dget B 0 (x_var B 5 5) (x_var B 2 2) (by intro xs h; match xs, h with | [_, _, _, _], _ => rfl) rfl) (x_bin (x_var B 3 3) xe_int (.modI _ _ (by decide))) (.lst _ _ _ (i2 _ _))) xa_nil)) (v _ (by split <;> rfl)))).is ?_
    unfold outN
    split <;> rfl
  · refine (x_ret (x_call B c_law_bad_number 8 (xa_cons (x_bin (x_var B 3 3) xe_int (.divI _ _ ⟨by decide, by decide⟩)) (xa_cons (x_ix (x_dget B 1 (x_var B 5 5) (x_var B 2 2) (by intro xs h; match xs, h with | [_, _, _, _], _ => rfl) rfl) (x_bin (x_var B 3 3) xe_int (.modI _ _ (by decide))) (.lst _ _ _ (i2 _ _))) xa_nil)) (v _ (by split <;> rfl)))).is ?_
    unfold outN
    split <;> rfl
  · refine (x_ret (x_call B c_law_bad_number 8 (xa_cons (x_bin (x_var B 3 3) xe_int (.divI _ _ ⟨by decide, by decide⟩)) (xa_cons (x_ix (x_dget B 2 (x_var B 5 5) (x_var B 2 2) (by intro xs h; match xs, h with | [_, _, _, _], _ => rfl) rfl) (x_bin (x_var B 3 3) xe_int (.modI _ _ (by decide))) (.lst _ _ _ (i2 _ _))) xa_nil)) (v _ (by split <;> rfl)))).is ?_
    unfold outN
    split <;> rfl
  · refine (x_ret (x_call B c_law_bad_number 8 (xa_cons (x_bin (x_var B 3 3) xe_int (.divI _ _ ⟨by decide, by decide⟩)) (xa_cons (x_ix (x_dget B 3 (x_var B 5 5) (x_var B 2 2) (by intro xs h; match xs, h with | [_, _, _, _], _ => rfl) rfl) (x_bin (x_var B 3 3) xe_int (.modI _ _ (by decide))) (.lst _ _ _ (i2 _ _))) xa_nil)) (v _ (by split <;> rfl)))).is ?_
    unfold outN
    split <;> rfl
theorem ok_law_refused (T : DefAt K mg "_law_refused" s_law_refused ["_law_thing"]) (c_read_moment : FnL P w K mg base "read_moment" 4 1 (phi_readM a_NoMoment)) (m_isinstance : mg "isinstance" = none) (m_ValueError : mg "ValueError" = none) (x_FieldError : ExCls K mg "FieldError" a_FieldError) (x_NoMoment : ExCls K mg "NoMoment" a_NoMoment) (x_NoDay : ExCls K mg "NoDay" a_NoDay) (w_NoField : mg "NoField" = some (.ref a_NoField)) (w_NoRow : mg "NoRow" = some (.ref a_NoRow)) (w_NoBook : mg "NoBook" = some (.ref a_NoBook)) (w_NoClock : mg "NoClock" = some (.ref a_NoClock)) (w_NoName : mg "NoName" = some (.ref a_NoName)) (w_NoWord : mg "NoWord" = some (.ref a_NoWord)) (f_sub : PySem.W.subIn K (.ref a_NoMoment) (.ref a_FieldError) = some true) (f_ve : PySem.W.kitOne K (.ref a_NoMoment) (.type "ValueError") = some true) (f_not : PySem.W.kitAny K (.ref a_NoMoment) [.ref a_NoDay, .ref a_NoField, .ref a_NoRow, .ref a_NoBook, .ref a_NoClock, .ref a_NoName, .ref a_NoWord] = some false) : FnC P w K mg base "_law_refused" 5 1 (phi_law_refused a_NoMoment) := by
  refine def_ok T sc_law_refused (nk := nk_law_refused) rfl (by decide +kernel) rfl fun X W ds B S hl nb => ?_
  obtain ⟨d, rfl, hb⟩ : ∃ d : D, ds = [d] ∧ phi_readM a_NoMoment [d] = .exc a_NoMoment [] [] := by
    unfold phi_law_refused at nb
    split at nb
    · rename_i h
      match ds, h with
      | [d], h => exact ⟨d, rfl, h.1⟩
    · exact absurd rfl nb
  refine ⟨.ret (.bl true), ?_, by
    rw [refused_val hb]
    exact .ret _⟩
  refine xb_stop (xs_tryAsL (ns := []) (xs := []) (oS := .ret (.bl true)) B S x_FieldError 1 3 1 (fun Y W' B S tk eY => x_exprX (x_callXL B tk c_read_moment 2 (xa_cons (x_var B 0 0) xa_nil) hb)) (PySem.W.exm_ref x_FieldError.sub x_FieldError.hd x_FieldError.ty f_sub) (fun Y a od Hh => ?_) trivial) trivial
  refine xb_ifF ((xv_or (xt_not (xt_val (h_is Hh x_NoMoment 1 4 1 m_isinstance (h_cls Hh 5 x_NoMoment.mg_) (.own _) kit_self))) fun hq0 => (xv_or1 (xt_not (xt_val (h_is Hh x_NoMoment 1 4 1 m_isinstance (h_bcl Hh 6 m_ValueError boot_ValueError) (.ty _) f_ve)))))).t rfl ?_
  exact x_ret (xe_notV (h_isT Hh x_NoMoment (cvs := [.ref a_NoDay, .ref a_NoField, .ref a_NoRow, .ref a_NoBook, .ref a_NoClock, .ref a_NoName, .ref a_NoWord]) (us := [.ref a_NoDay, .ref a_NoField, .ref a_NoRow, .ref a_NoBook, .ref a_NoClock, .ref a_NoName, .ref a_NoWord]) 1 4 1 m_isinstance (xe_tup (xa_cons (h_cls Hh 7 x_NoDay.mg_) (xa_cons (h_cls Hh 8 w_NoField) (xa_cons (h_cls Hh 9 w_NoRow) (xa_cons (h_cls Hh 10 w_NoBook) (xa_cons (h_cls Hh 11 w_NoClock) (xa_cons (h_cls Hh 12 w_NoName) (xa_cons (h_cls Hh 13 w_NoWord) xa_nil)))))))) (.cons (.own _) (.cons (.own _) (.cons (.own _) (.cons (.own _) (.cons (.own _) (.cons (.own _) (.cons (.own _) .nil))))))) f_not))
theorem ok_law_spoilt (T : DefAt K mg "_law_spoilt" s_law_spoilt ["_law_parts_here", "_law_last_here", "_law_cell"]) (c_law_bad : FnC P w K mg base "_law_bad" 2 4 phi_law_bad) (m_list : mg "list" = none) : FnC P w K mg base "_law_spoilt" 3 3 phi_law_spoilt := by
  refine def_ok T sc_law_spoilt (nk := nk_law_spoilt) rfl (by decide +kernel) rfl fun X W ds B S hl nb => ?_
  obtain ⟨ps, last, c, rfl, ok, hla⟩ := spoilt_inv nb
  refine ⟨.ret (sptD ps last c), ?_, by
    rw [spoilt_val ok hla]
    exact .ret _⟩
  have f9 := flat9 ok
  have sf := sums_flat ps
  refine (x_setE B S 3 3 (ρ1 := [_, _, _, _, _, _, _, _, _]) (x_bin (x_var B 2 2) xe_int (.modI _ _ (by decide))) rfl ?_)
  refine (x_setE B S 2 2 (ρ1 := [_, _, _, _, _, _, _, _, _]) (x_bin (x_var B 2 2) xe_int (.divI _ _ ⟨by decide, by decide⟩)) rfl ?_)
  refine (x_setE B S 4 4 (d := .tx ps.flatten) (ρ1 := [_, _, _, _, _, _, _, _, _]) ((x_join (x_lit []) ((x_var B 0 0)).q rfl (by rw [sf]; simp only [List.length_nil, Nat.mul_zero]; omega)).is (by rw [join_flat])) rfl ?_)
  have l9 := ok.1
  unfold sptD
  by_cases w0 : c % 7 = 0
  · rw [if_pos w0]
    refine xb_ifT (xt_cmpv (x_var B 3 3) xe_int (by first | exact .eqI _ _ | exact .eqS _ _ | exact .eqB _ _)) (decide_eq_true w0) (x_ret (x_ix (xo_lst (xa_cons xe_non (xa_cons xe_int (xa_cons xe_bl (xa_cons (xo_lst (xa_cons (x_var B 4 4) xa_nil)).dat (xa_cons (xe_tup (xa_cons (x_var B 4 4) xa_nil)) (xa_cons xe_dct0 xa_nil))))))).dat (x_bin (x_var B 2 2) xe_int (.modI _ _ (by decide))) (.lst _ _ _ ?ix))) trivial
    case ix =>
      have hk : (c / 7 % 6).toNat = 0 ∨ (c / 7 % 6).toNat = 1 ∨ (c / 7 % 6).toNat = 2 ∨ (c / 7 % 6).toNat = 3 ∨ (c / 7 % 6).toNat = 4 ∨ (c / 7 % 6).toNat = 5 := by omega
      rw [show c / 7 % 6 = ((c / 7 % 6).toNat : Int) by omega]
      rcases hk with hk | hk | hk | hk | hk | hk <;> rw [hk] <;> rfl
  rw [if_neg w0]
  refine xb_ifF (xt_cmpv (x_var B 3 3) xe_int (by first | exact .eqI _ _ | exact .eqS _ _ | exact .eqB _ _)) (decide_eq_false w0) ?_
  by_cases w1 : c % 7 = 1
  · rw [if_pos w1]
    refine xb_ifT (xt_cmpv (x_var B 3 3) xe_int (by first | exact .eqI _ _ | exact .eqS _ _ | exact .eqB _ _)) (decide_eq_true w1) ?_ trivial
    generalize ps.flatten = x at *
    have k1 : cutL x none (some (-1)) = x.dropLast := by
      unfold cutL
      rw [show HT.sIx x.length 0 none = 0 from rfl, List.drop_zero, Nat.sub_zero, show HT.sIx x.length x.length (some (-1)) = x.length - 1 by
        show ((-1 : Int) + (x.length : Nat)).toNat = _
        omega, List.dropLast_eq_take]
    have k2 : cutL x (some 1) (some 2) = (x.drop 1).take 1 := by
      unfold cutL
      rw [show HT.sIx x.length 0 (some 1) = min 1 x.length from HT.sIx_nat x.length 0 1, show HT.sIx x.length x.length (some 2) = min 2 x.length from HT.sIx_nat x.length x.length 2]
      match x with
      | [] => rfl
      | [_] => rfl
      | _ :: _ :: r =>
        simp only [List.length_cons]
        rw [show min 1 (r.length + 1 + 1) = 1 by omega, show min 2 (r.length + 1 + 1) = 2 by omega]
    have kl : (x.dropLast).length ≤ x.length := by rw [List.length_dropLast]; omega
    have kt : ((x.drop 1).take 1).length ≤ 1 := by rw [List.length_take]; omega
    refine (x_setOE B S 5 5 (ρ1 := [_, _, _, _, _, _, _, _, _]) (xo_lst (xa_cons (x_cat (x_lit [32]) (x_var B 4 4) (by first | omega | (simp; omega) | (rw [k2]; simp; omega))) (xa_cons (x_cat (x_var B 4 4) (x_lit [32]) (by first | omega | (simp; omega) | (rw [k2]; simp; omega))) (xa_cons (x_cat (x_var B 4 4) (x_lit [90]) (by first | omega | (simp; omega) | (rw [k2]; simp; omega))) (xa_cons (x_sliceT (x_var B 4 4) xp_none (xp_some (xe_neg xe_int)) (by first | omega | (simp; omega) | (rw [k2]; simp; omega))) (xa_cons (x_cat (x_cat (x_sliceT (x_var B 4 4) (xp_some xe_int) (xp_some xe_int) (by first | omega | (simp; omega) | (rw [k2]; simp; omega))) (x_lit [32]) (by first | omega | (simp; omega) | (rw [k2]; simp; omega))) (x_var B 4 4) (by first | omega | (simp; omega) | (rw [k2]; simp; omega))) (xa_cons (x_cat (x_cat (x_lit [45]) (x_var B 4 4) (by first | omega | (simp; omega) | (rw [k2]; simp; omega))) (x_lit [45]) (by first | omega | (simp; omega) | (rw [k2]; simp; omega))) (xa_cons (x_lit []) xa_nil)))))))) rfl ?_)
    refine (x_ret (x_ixQ ((x_catO (x_ownQ B 5 5) ((xo_lst (xa_cons (x_cat (x_var B 4 4) (x_lit [10]) (by first | omega | (simp; omega))) (xa_cons (x_cat (x_lit [10]) (x_var B 4 4) (by first | omega | (simp; omega))) (xa_cons (x_cat (x_var B 4 4) (x_lit [9]) (by first | omega | (simp; omega))) xa_nil))))).q (by exact Nat.le_of_ble_eq_true rfl))).q (x_bin (x_var B 2 2) xe_int (.modI _ _ (by decide))) (by rw [k1, k2, show c / 7 % 10 = ((c / 7 % 10).toNat : Int) by omega]; exact txs_ix (its := [[32] ++ x, x ++ [32], x ++ [90], x.dropLast, (x.drop 1).take 1 ++ [32] ++ x, [45] ++ x ++ [45], [], x ++ [10], [10] ++ x, x ++ [9] ]) (by show (c / 7 % 10).toNat < 10; omega)))).is rfl
  rw [if_neg w1]
  refine xb_ifF (xt_cmpv (x_var B 3 3) xe_int (by first | exact .eqI _ _ | exact .eqS _ _ | exact .eqB _ _)) (decide_eq_false w1) ?_
  generalize c / 7 = e at *
  refine (x_setOE B S 6 6 (ρ1 := [_, _, _, _, _, _, _, _, _]) (x_listQ B 9 m_list ((x_var B 0 0)).q) rfl ?_)
  refine (x_setE B S 7 7 (ρ1 := [_, _, _, _, _, _, _, _, _]) (x_bin (x_var B 2 2) xe_int (.modI _ _ (by decide))) rfl ?_)
  have h9 : (e % 9).toNat < 9 := by omega
  have e9 : e % 9 = ((e % 9).toNat : Int) := by omega
  have i0 : ∀ (us : List (List Nat)) (k : Nat), us.length = 9 → k < 9 → ixN us.length (k : Int) = some k := fun us k hu hk => by
    unfold ixN
    rw [if_pos (by omega), if_pos (by omega)]
    rfl
  have x0 : ∀ (us : List (List Nat)), okPs us → (us.getD 0 []).length ≤ 120 := fun us hu => by
    rw [List.getD_eq_getElem?_getD, List.getElem?_eq_getElem (by rw [hu.1]; decide)]
    exact hu.2 _ (List.getElem_mem _)
  rw [e9]
  refine (x_stE B 6 6 (ρ1 := [_, _, _, _, _, _, _, _, _]) rfl (x_call B c_law_bad 10 (xa_cons (x_var B 0 0) (xa_cons (x_var B 1 1) (xa_cons (x_var B 7 7) (xa_cons (x_bin (x_var B 2 2) xe_int (.divI _ _ ⟨by decide, by decide⟩)) xa_nil)))) (bad_val ok hla h9)) (x_var B 7 7) (by rw [txs_len]; exact i0 _ _ l9 h9) rfl ?_)
  rw [txs_set]
  have es : ps.set (e % 9).toNat (badX (ps.getD 0 []) last (e % 9).toNat (nonneg (e / 9))) = sp1 ps last e := rfl
  rw [es]
  have ls : (sp1 ps last e).length = 9 := by
    unfold sp1
    rw [List.length_set, l9]
  have bl : ∀ a c, (badX (ps.getD 0 []) last a c).length ≤ 180 := fun a c => by
    have := badX_len (ps.getD 0 []) last a c
    have := x0 ps ok
    omega
  have sl : ∀ p ∈ sp1 ps last e, p.length ≤ 180 := fun p hp => by
    rcases List.mem_or_eq_of_mem_set hp with hp | rfl
    · have := ok.2 p hp
      omega
    · exact bl _ _
  have o9 : spO e < 9 := by unfold spO; omega
  have eo : ((((e % 9).toNat : Nat) : Int) + 1 + e / 180 % 8) % 9 = ((spO e : Nat) : Int) := by unfold spO; omega
  refine xb_ifm (ρ1 := [.val (.lst (txs ps)), .val (.int (last : Nat)), .val (.int e), .val (.int (c % 7)), .val (.tx ps.flatten), .no, .own (txs (if 4 < c % 7 then (sp1 ps last e).set (spO e) (badX (ps.getD 0 []) last (spO e) (nonneg (e / 1440))) else sp1 ps last e)), .val (.int ((e % 9).toNat : Nat)), .no]) (xt_cmpv (x_var B 3 3) xe_int (.gt _ _)) (fun h => ?_) (fun h => ?_) ?_
  · have h' : 4 < c % 7 := by simpa using h
    rw [if_pos h']
    refine (x_setE B S 8 8 (d := .int (spO e : Nat)) (ρ1 := [_, _, _, _, _, _, _, _, _]) ((x_bin (x_bin (x_bin (x_var B 7 7) xe_int (by first | exact .addI _ _ | exact .catS _ _ (by first | assumption | omega | decide))) (x_bin (x_bin (x_var B 2 2) xe_int (.divI _ _ ⟨by decide, by decide⟩)) xe_int (.modI _ _ (by decide))) (by first | exact .addI _ _ | exact .catS _ _ (by first | assumption | omega | decide))) xe_int (.modI _ _ (by decide))).is (congrArg D.int eo)) rfl ?_)
    refine x_stE B 6 6 (ρ1 := [_, _, _, _, _, _, _, _, _]) rfl (x_call B c_law_bad 10 (xa_cons (x_var B 0 0) (xa_cons (x_var B 1 1) (xa_cons (x_var B 8 8) (xa_cons (x_bin (x_var B 2 2) xe_int (.divI _ _ ⟨by decide, by decide⟩)) xa_nil)))) (bad_val ok hla o9)) (x_var B 8 8) (by rw [txs_len]; exact i0 _ _ ls o9) rfl ?_
    rw [txs_set]
    exact xb_end (by (repeat' (first | exact WkL.nil | apply WkL.cons)) <;> (first | exact Wk.same _ | exact Wk.no _))
  · have h' : ¬ 4 < c % 7 := by simpa using h
    rw [if_neg h']
    exact xb_nil
  have fl : ∀ us : List (List Nat), us.length = 9 → (∀ p ∈ us, p.length ≤ 180) → (us.map (·.length)).sum + us.length * ([] : List Nat).length ≤ 1000000 := fun us hu hp => by
    rw [sums_flat]
    have := flat_len hp
    simp only [List.length_nil, Nat.mul_zero]
    omega
  by_cases h' : 4 < c % 7
  · rw [if_pos h', if_pos h']
    exact (x_ret (x_join (x_lit []) (x_ownQ B 6 6) rfl (by exact fl _ (by rw [List.length_set, ls]) (fun p hp => by
      rcases List.mem_or_eq_of_mem_set hp with hp | rfl
      · exact sl p hp
      · exact bl _ _)))).is (by rw [join_flat])
  · rw [if_neg h', if_neg h']
    exact (x_ret (x_join (x_lit []) (x_ownQ B 6 6) rfl (by exact fl _ ls sl))).is (by rw [join_flat])
theorem ok_law {f : Addr} {fd : FuncData} (T : Fun K "law" "law" s_law f fd) (c_law_parts : FnC P w K mg base "_law_parts" 3 2 phi_law_parts) (c_read_moment : FnL P w K mg base "read_moment" 4 1 (phi_readM a_NoMoment)) (c_law_whole : FnC P w K mg base "_law_whole" 1 1 phi_law_whole) (c_law_refused : FnC P w K mg base "_law_refused" 5 1 (phi_law_refused a_NoMoment)) (c_law_spoilt : FnC P w K mg base "_law_spoilt" 3 3 phi_law_spoilt) (c_law_cell_at : FnC P w K mg base "_law_cell_at" 1 2 phi_law_cell_at) (m_range : mg "range" = none) (m_max : mg "max" = none) (m_min : mg "min" = none) (m_len : mg "len" = none) : FnOk P w K mg base (L2N.CX P w) 6 f fd ["_law_script"] (spD K 1 phiLaw) := by
  refine def_fn T sc_law (nk := nk_law) rfl (by decide +kernel) rfl fun X W ds B S hl nb => ?_
  obtain ⟨ns, h63, rfl⟩ := phiLaw_inv nb
  clear nb hl
  rw [phiLaw_ok h63]
  refine ⟨.ret (.bl true), ?_, .ret _⟩
  refine x_forE B S [1, 2, 3, 4, 5, 6] (ρ2 := [_, _, _, _, _, _, _, _]) (x_range3 B 7 m_range xe_int (x_max2 B 8 m_max xe_int (x_min2 B 9 m_min xe_int (x_len B 10 m_len (x_var B 0 0) (by first | exact .lst _ | exact .tup _ | exact .str _ (by first | assumption | omega | decide))))) xe_int (by omega)) rfl (fo_all fun d hd => ?_) (x_ret xe_bl)
  obtain ⟨k, rfl, hk⟩ := mem_rc (by decide) hd
  refine ⟨[_, _, _, _, _, _, _, _], (x_tgt B S.fn 1 1), ?_⟩
  refine (x_setLcE B S 2 2 (own := [("_law_j", 7)]) (ρ2 := [_, _, _, _, _, _, _, _]) (ρ1 := [_, _, _, _, _, _, _, _]) (okb B) (x_range1 B 7 m_range xe_int (by omega)) (by simp [rgD_len] <;> omega) rfl (lc_rg (G := fun j : Nat => D.int (ns.getD (0 + (k : Int) * 3 + (0 + (j : Int))).toNat 0)) ?lc) rfl ?_)
  case lc =>
    intro j hj
    exact ⟨[_, _, _, _, _, _, _, _], blk_of (nkc := [(".0", .«local»), ("_law_j", .«local»), ("_law_cell_at", .globalImplicit), ("_law_k", .free), ("_law_script", .free)]) rfl (by decide +kernel) B fun Y Bc => (x_tgw Bc 7 1), blk_of (nkc := [(".0", .«local»), ("_law_j", .«local»), ("_law_cell_at", .globalImplicit), ("_law_k", .free), ("_law_script", .free)]) rfl (by decide +kernel) B fun Y Bc => (x_call Bc c_law_cell_at 2 (xa_cons (x_var Bc 0 4) (xa_cons (x_bin (x_var Bc 1 3) (x_var Bc 7 1) (by first | exact .addI _ _ | exact .catS _ _ (by first | assumption | omega | decide))) xa_nil)) (cell_val (k := 0 + (k : Int) * 3 + (0 + (j : Int))) (by omega)))⟩
  have eL : ((List.range (3 : Int).toNat).map fun j : Nat => D.int (ns.getD (0 + (k : Int) * 3 + (0 + (j : Int))).toNat 0)) = [.int (ns.getD (0 + (k : Int) * 3 + (0 + ((0 : Nat) : Int))).toNat 0), .int (ns.getD (0 + (k : Int) * 3 + (0 + ((1 : Nat) : Int))).toNat 0), .int (ns.getD (0 + (k : Int) * 3 + (0 + ((2 : Nat) : Int))).toNat 0)] := rfl
  rw [eL]
  clear eL
  generalize ns.getD (0 + (k : Int) * 3 + (0 + ((0 : Nat) : Int))).toNat 0 = c
  generalize ns.getD (0 + (k : Int) * 3 + (0 + ((1 : Nat) : Int))).toNat 0 = o
  generalize ns.getD (0 + (k : Int) * 3 + (0 + ((2 : Nat) : Int))).toNat 0 = e
  have q := pr_ok c o
  obtain ⟨ok, ok0⟩ := ptx_ok c o
  have f9 := flat9 ok
  have sf := sums_flat (ptx c o)
  have rd := ptx_read (C := a_NoMoment) c o
  have rf := sp_refused (C := a_NoMoment) c o e
  refine (x_asg (ρ1 := [_, _, _, _, _, _, _, _]) (x_call B c_law_parts 11 (xa_cons (x_ixQ (x_ownQ B 2 2) xe_int rfl) (xa_cons (x_ixQ (x_ownQ B 2 2) xe_int rfl) xa_nil)) rfl) (xg_tup B.calm (xgs_cons (x_tgt B S.fn 3 3) (xgs_cons (x_tgt B S.fn 4 4) xgs_nil)) rfl) ?_)
  refine (x_setE B S 5 5 (d := .tx (ptx c o).flatten) (ρ1 := [_, _, _, _, _, _, _, _]) ((x_join (x_lit []) ((x_var B 3 3)).q rfl (by rw [sf]; simp only [List.length_nil, Nat.mul_zero]; omega)).is (by rw [join_flat])) rfl ?_)
  refine (x_setE B S 6 6 (ρ1 := [_, _, _, _, _, _, _, _]) (x_call B (c_read_moment).n 12 (xa_cons (x_var B 5 5) xa_nil) (noX_of rd)) rfl ?_)
  refine xb_ifF ((xv_or (xt_not (xt_val (x_call B c_law_whole 13 (xa_cons (x_var B 6 6) xa_nil) rfl))) fun hq0 => (xv_or1 (xt_not (xt_val (x_call B c_law_refused 14 (xa_cons (x_call B c_law_spoilt 15 (xa_cons (x_var B 3 3) (xa_cons (x_var B 4 4) (xa_cons (x_ixQ (x_ownQ B 2 2) xe_int rfl) xa_nil))) (spoilt_val ok ⟨q.l2, q.l.2⟩)) xa_nil) (refused_val rf))))))).t rfl ?_
  exact xb_ifF (xt_cmpv (x_call B (c_read_moment).n 12 (xa_cons (x_var B 5 5) xa_nil) (noX_of rd)) (x_var B 6 6) (by first | exact .neI _ _ | exact .neS _ _ | exact .neB _ _)) (by simp) (xb_end (by (repeat' (first | exact WkL.nil | apply WkL.cons)) <;> (first | exact Wk.same _ | exact Wk.no _)))
end
set_option maxHeartbeats 2000000 in
theorem all_mk {P : Program} {w : World} {K : PySem.W.Frag} {h : Heap} {mg : Str → Option Value} {fa : Addr} (X : K.In h) (G : h.Ns mainGlobals mg) (hfa : mg "law" = some (.ref fa))
    {f0 : Addr} {oc0 kV0 dc0 pm0 cd0 ct0 : Value} {od0 an0 : Option Addr} {sl0 : Array (Option Value)} (a0 : PySem.W.nsIn K mainGlobals "is_whole" = some (some (.ref f0))) (l0 : K.lookup f0 = some ⟨oc0, od0, .func (PySem.W.fnOf "is_whole" "is_whole" (defArgs s_is_whole) (defBody s_is_whole) (defScope s_is_whole) .none kV0 dc0 pm0 an0 cd0 ct0), sl0⟩) (c0 : PySem.W.codeIn K cd0 "is_whole" = true) (k0 : PySem.W.keepIn K (.ref f0) = true)
    {f1 : Addr} {oc1 kV1 dc1 pm1 cd1 ct1 : Value} {od1 an1 : Option Addr} {sl1 : Array (Option Value)} (a1 : PySem.W.nsIn K mainGlobals "only_figures" = some (some (.ref f1))) (l1 : K.lookup f1 = some ⟨oc1, od1, .func (PySem.W.fnOf "only_figures" "only_figures" (defArgs s_only_figures) (defBody s_only_figures) (defScope s_only_figures) .none kV1 dc1 pm1 an1 cd1 ct1), sl1⟩) (c1 : PySem.W.codeIn K cd1 "only_figures" = true) (k1 : PySem.W.keepIn K (.ref f1) = true)
    {f2 : Addr} {oc2 kV2 dc2 pm2 cd2 ct2 : Value} {od2 an2 : Option Addr} {sl2 : Array (Option Value)} (a2 : PySem.W.nsIn K mainGlobals "is_long" = some (some (.ref f2))) (l2 : K.lookup f2 = some ⟨oc2, od2, .func (PySem.W.fnOf "is_long" "is_long" (defArgs s_is_long) (defBody s_is_long) (defScope s_is_long) .none kV2 dc2 pm2 an2 cd2 ct2), sl2⟩) (c2 : PySem.W.codeIn K cd2 "is_long" = true) (k2 : PySem.W.keepIn K (.ref f2) = true)
    {f3 : Addr} {oc3 kV3 dc3 pm3 cd3 ct3 : Value} {od3 an3 : Option Addr} {sl3 : Array (Option Value)} (a3 : PySem.W.nsIn K mainGlobals "days_before" = some (some (.ref f3))) (l3 : K.lookup f3 = some ⟨oc3, od3, .func (PySem.W.fnOf "days_before" "days_before" (defArgs s_days_before) (defBody s_days_before) (defScope s_days_before) .none kV3 dc3 pm3 an3 cd3 ct3), sl3⟩) (c3 : PySem.W.codeIn K cd3 "days_before" = true) (k3 : PySem.W.keepIn K (.ref f3) = true)
    {f4 : Addr} {oc4 kV4 dc4 pm4 cd4 ct4 : Value} {od4 an4 : Option Addr} {sl4 : Array (Option Value)} (a4 : PySem.W.nsIn K mainGlobals "last_of" = some (some (.ref f4))) (l4 : K.lookup f4 = some ⟨oc4, od4, .func (PySem.W.fnOf "last_of" "last_of" (defArgs s_last_of) (defBody s_last_of) (defScope s_last_of) .none kV4 dc4 pm4 an4 cd4 ct4), sl4⟩) (c4 : PySem.W.codeIn K cd4 "last_of" = true) (k4 : PySem.W.keepIn K (.ref f4) = true)
    {f5 : Addr} {oc5 kV5 dc5 pm5 cd5 ct5 : Value} {od5 an5 : Option Addr} {sl5 : Array (Option Value)} (a5 : PySem.W.nsIn K mainGlobals "day_of" = some (some (.ref f5))) (l5 : K.lookup f5 = some ⟨oc5, od5, .func (PySem.W.fnOf "day_of" "day_of" (defArgs s_day_of) (defBody s_day_of) (defScope s_day_of) .none kV5 dc5 pm5 an5 cd5 ct5), sl5⟩) (c5 : PySem.W.codeIn K cd5 "day_of" = true) (k5 : PySem.W.keepIn K (.ref f5) = true)
    {f6 : Addr} {oc6 kV6 dc6 pm6 cd6 ct6 : Value} {od6 an6 : Option Addr} {sl6 : Array (Option Value)} (a6 : PySem.W.nsIn K mainGlobals "moment_of" = some (some (.ref f6))) (l6 : K.lookup f6 = some ⟨oc6, od6, .func (PySem.W.fnOf "moment_of" "moment_of" (defArgs s_moment_of) (defBody s_moment_of) (defScope s_moment_of) .none kV6 dc6 pm6 an6 cd6 ct6), sl6⟩) (c6 : PySem.W.codeIn K cd6 "moment_of" = true) (k6 : PySem.W.keepIn K (.ref f6) = true)
    {f7 : Addr} {oc7 kV7 dc7 pm7 cd7 ct7 : Value} {od7 an7 : Option Addr} {sl7 : Array (Option Value)} (a7 : PySem.W.nsIn K mainGlobals "year_in" = some (some (.ref f7))) (l7 : K.lookup f7 = some ⟨oc7, od7, .func (PySem.W.fnOf "year_in" "year_in" (defArgs s_year_in) (defBody s_year_in) (defScope s_year_in) .none kV7 dc7 pm7 an7 cd7 ct7), sl7⟩) (c7 : PySem.W.codeIn K cd7 "year_in" = true) (k7 : PySem.W.keepIn K (.ref f7) = true)
    {f8 : Addr} {oc8 kV8 dc8 pm8 cd8 ct8 : Value} {od8 an8 : Option Addr} {sl8 : Array (Option Value)} (a8 : PySem.W.nsIn K mainGlobals "read_moment" = some (some (.ref f8))) (l8 : K.lookup f8 = some ⟨oc8, od8, .func (PySem.W.fnOf "read_moment" "read_moment" (defArgs s_read_moment) (defBody s_read_moment) (defScope s_read_moment) .none kV8 dc8 pm8 an8 cd8 ct8), sl8⟩) (c8 : PySem.W.codeIn K cd8 "read_moment" = true) (k8 : PySem.W.keepIn K (.ref f8) = true)
    {f9 : Addr} {oc9 kV9 dc9 pm9 cd9 ct9 : Value} {od9 an9 : Option Addr} {sl9 : Array (Option Value)} (a9 : PySem.W.nsIn K mainGlobals "_law_cell_at" = some (some (.ref f9))) (l9 : K.lookup f9 = some ⟨oc9, od9, .func (PySem.W.fnOf "_law_cell_at" "_law_cell_at" (defArgs s_law_cell_at) (defBody s_law_cell_at) (defScope s_law_cell_at) .none kV9 dc9 pm9 an9 cd9 ct9), sl9⟩) (c9 : PySem.W.codeIn K cd9 "_law_cell_at" = true) (k9 : PySem.W.keepIn K (.ref f9) = true)
    {f10 : Addr} {oc10 kV10 dc10 pm10 cd10 ct10 : Value} {od10 an10 : Option Addr} {sl10 : Array (Option Value)} (a10 : PySem.W.nsIn K mainGlobals "_law_whole" = some (some (.ref f10))) (l10 : K.lookup f10 = some ⟨oc10, od10, .func (PySem.W.fnOf "_law_whole" "_law_whole" (defArgs s_law_whole) (defBody s_law_whole) (defScope s_law_whole) .none kV10 dc10 pm10 an10 cd10 ct10), sl10⟩) (c10 : PySem.W.codeIn K cd10 "_law_whole" = true) (k10 : PySem.W.keepIn K (.ref f10) = true)
    {f11 : Addr} {oc11 kV11 dc11 pm11 cd11 ct11 : Value} {od11 an11 : Option Addr} {sl11 : Array (Option Value)} (a11 : PySem.W.nsIn K mainGlobals "_law_long" = some (some (.ref f11))) (l11 : K.lookup f11 = some ⟨oc11, od11, .func (PySem.W.fnOf "_law_long" "_law_long" (defArgs s_law_long) (defBody s_law_long) (defScope s_law_long) .none kV11 dc11 pm11 an11 cd11 ct11), sl11⟩) (c11 : PySem.W.codeIn K cd11 "_law_long" = true) (k11 : PySem.W.keepIn K (.ref f11) = true)
    {f12 : Addr} {oc12 kV12 dc12 pm12 cd12 ct12 : Value} {od12 an12 : Option Addr} {sl12 : Array (Option Value)} (a12 : PySem.W.nsIn K mainGlobals "_law_last" = some (some (.ref f12))) (l12 : K.lookup f12 = some ⟨oc12, od12, .func (PySem.W.fnOf "_law_last" "_law_last" (defArgs s_law_last) (defBody s_law_last) (defScope s_law_last) .none kV12 dc12 pm12 an12 cd12 ct12), sl12⟩) (c12 : PySem.W.codeIn K cd12 "_law_last" = true) (k12 : PySem.W.keepIn K (.ref f12) = true)
    {f13 : Addr} {oc13 kV13 dc13 pm13 cd13 ct13 : Value} {od13 an13 : Option Addr} {sl13 : Array (Option Value)} (a13 : PySem.W.nsIn K mainGlobals "_law_two" = some (some (.ref f13))) (l13 : K.lookup f13 = some ⟨oc13, od13, .func (PySem.W.fnOf "_law_two" "_law_two" (defArgs s_law_two) (defBody s_law_two) (defScope s_law_two) .none kV13 dc13 pm13 an13 cd13 ct13), sl13⟩) (c13 : PySem.W.codeIn K cd13 "_law_two" = true) (k13 : PySem.W.keepIn K (.ref f13) = true)
    {f14 : Addr} {oc14 kV14 dc14 pm14 cd14 ct14 : Value} {od14 an14 : Option Addr} {sl14 : Array (Option Value)} (a14 : PySem.W.nsIn K mainGlobals "_law_parts" = some (some (.ref f14))) (l14 : K.lookup f14 = some ⟨oc14, od14, .func (PySem.W.fnOf "_law_parts" "_law_parts" (defArgs s_law_parts) (defBody s_law_parts) (defScope s_law_parts) .none kV14 dc14 pm14 an14 cd14 ct14), sl14⟩) (c14 : PySem.W.codeIn K cd14 "_law_parts" = true) (k14 : PySem.W.keepIn K (.ref f14) = true)
    {f15 : Addr} {oc15 kV15 dc15 pm15 cd15 ct15 : Value} {od15 an15 : Option Addr} {sl15 : Array (Option Value)} (a15 : PySem.W.nsIn K mainGlobals "_law_bad_number" = some (some (.ref f15))) (l15 : K.lookup f15 = some ⟨oc15, od15, .func (PySem.W.fnOf "_law_bad_number" "_law_bad_number" (defArgs s_law_bad_number) (defBody s_law_bad_number) (defScope s_law_bad_number) .none kV15 dc15 pm15 an15 cd15 ct15), sl15⟩) (c15 : PySem.W.codeIn K cd15 "_law_bad_number" = true) (k15 : PySem.W.keepIn K (.ref f15) = true)
    {f16 : Addr} {oc16 kV16 dc16 pm16 cd16 ct16 : Value} {od16 an16 : Option Addr} {sl16 : Array (Option Value)} (a16 : PySem.W.nsIn K mainGlobals "_law_bad" = some (some (.ref f16))) (l16 : K.lookup f16 = some ⟨oc16, od16, .func (PySem.W.fnOf "_law_bad" "_law_bad" (defArgs s_law_bad) (defBody s_law_bad) (defScope s_law_bad) .none kV16 dc16 pm16 an16 cd16 ct16), sl16⟩) (c16 : PySem.W.codeIn K cd16 "_law_bad" = true) (k16 : PySem.W.keepIn K (.ref f16) = true)
    {f17 : Addr} {oc17 kV17 dc17 pm17 cd17 ct17 : Value} {od17 an17 : Option Addr} {sl17 : Array (Option Value)} (a17 : PySem.W.nsIn K mainGlobals "_law_refused" = some (some (.ref f17))) (l17 : K.lookup f17 = some ⟨oc17, od17, .func (PySem.W.fnOf "_law_refused" "_law_refused" (defArgs s_law_refused) (defBody s_law_refused) (defScope s_law_refused) .none kV17 dc17 pm17 an17 cd17 ct17), sl17⟩) (c17 : PySem.W.codeIn K cd17 "_law_refused" = true) (k17 : PySem.W.keepIn K (.ref f17) = true)
    {f18 : Addr} {oc18 kV18 dc18 pm18 cd18 ct18 : Value} {od18 an18 : Option Addr} {sl18 : Array (Option Value)} (a18 : PySem.W.nsIn K mainGlobals "_law_spoilt" = some (some (.ref f18))) (l18 : K.lookup f18 = some ⟨oc18, od18, .func (PySem.W.fnOf "_law_spoilt" "_law_spoilt" (defArgs s_law_spoilt) (defBody s_law_spoilt) (defScope s_law_spoilt) .none kV18 dc18 pm18 an18 cd18 ct18), sl18⟩) (c18 : PySem.W.codeIn K cd18 "_law_spoilt" = true) (k18 : PySem.W.keepIn K (.ref f18) = true)
    {f19 : Addr} {oc19 kV19 dc19 pm19 cd19 ct19 : Value} {od19 an19 : Option Addr} {sl19 : Array (Option Value)} (a19 : PySem.W.nsIn K mainGlobals "law" = some (some (.ref f19))) (l19 : K.lookup f19 = some ⟨oc19, od19, .func (PySem.W.fnOf "law" "law" (defArgs s_law) (defBody s_law) (defScope s_law) .none kV19 dc19 pm19 an19 cd19 ct19), sl19⟩) (c19 : PySem.W.codeIn K cd19 "law" = true) (k19 : PySem.W.keepIn K (.ref f19) = true)
    (z0 : PySem.W.nsIn K mainGlobals "isinstance" = some none)
    (z1 : PySem.W.nsIn K mainGlobals "int" = some none)
    (z2 : PySem.W.nsIn K mainGlobals "bool" = some none)
    (z3 : PySem.W.nsIn K mainGlobals "sum" = some none)
    (z4 : PySem.W.nsIn K mainGlobals "range" = some none)
    (z5 : PySem.W.nsIn K mainGlobals "len" = some none)
    (z6 : PySem.W.nsIn K mainGlobals "str" = some none)
    (z7 : PySem.W.nsIn K mainGlobals "max" = some none)
    (z8 : PySem.W.nsIn K mainGlobals "ValueError" = some none)
    (z9 : PySem.W.nsIn K mainGlobals "list" = some none)
    (z10 : PySem.W.nsIn K mainGlobals "min" = some none)
    {u0 : Tok} (y0 : PySem.W.nsIn K mainGlobals "FIGURES" = some (some (.str "0123456789" u0)))
    {b1 : Addr} {bo1 : Obj} (y1 : PySem.W.nsIn K mainGlobals "LASTS" = some (some (.ref b1))) (q1 : K.lookup b1 = some bo1) (r1 : tupOf bo1 = some [.int 31, .int 28, .int 31, .int 30, .int 31, .int 30, .int 31, .int 31, .int 30, .int 31, .int 30, .int 31])
    {u2 : Tok} (y2 : PySem.W.nsIn K mainGlobals "DAY" = some (some (.int 1440 u2)))
    {u3 : Tok} (y3 : PySem.W.nsIn K mainGlobals "HOUR" = some (some (.int 60 u3)))
    {u4 : Tok} (y4 : PySem.W.nsIn K mainGlobals "MOST_FIGURES" = some (some (.int 50 u4)))
    {u5 : Tok} (y5 : PySem.W.nsIn K mainGlobals "TAIL" = some (some (.int 12 u5)))
    {a_NoDay : Addr} (n_NoDay : PySem.W.nsIn K mainGlobals "NoDay" = some (some (.ref a_NoDay)))
    (e0_NoDay : PySem.W.keepIn K (.ref a_NoDay) = true)
    (e1_NoDay : PySem.W.subIn K (.ref a_NoDay) (.type "BaseException") = some true)
    (e2_NoDay : PySem.W.typeIn K (.ref a_NoDay) = some (.type "type"))
    (e3_NoDay : PySem.W.hasDictIn K a_NoDay = true)
    (e4_NoDay : PySem.W.findIn K (.ref a_NoDay) "__getattribute__" = some (some (.builtin "BaseException.__getattribute__")))
    (e5_NoDay : PySem.W.findIn K (.ref a_NoDay) "__getattr__" = some none)
    (e6_NoDay : PySem.W.findIn K (.ref a_NoDay) "__class__" = some (some (.builtin "object.__class__")))
    (e7_NoDay : PySem.W.mroIn K a_NoDay (.type "object") = some true)
    {a_NoMoment : Addr} (n_NoMoment : PySem.W.nsIn K mainGlobals "NoMoment" = some (some (.ref a_NoMoment)))
    (e0_NoMoment : PySem.W.keepIn K (.ref a_NoMoment) = true)
    (e1_NoMoment : PySem.W.subIn K (.ref a_NoMoment) (.type "BaseException") = some true)
    (e2_NoMoment : PySem.W.typeIn K (.ref a_NoMoment) = some (.type "type"))
    (e3_NoMoment : PySem.W.hasDictIn K a_NoMoment = true)
    (e4_NoMoment : PySem.W.findIn K (.ref a_NoMoment) "__getattribute__" = some (some (.builtin "BaseException.__getattribute__")))
    (e5_NoMoment : PySem.W.findIn K (.ref a_NoMoment) "__getattr__" = some none)
    (e6_NoMoment : PySem.W.findIn K (.ref a_NoMoment) "__class__" = some (some (.builtin "object.__class__")))
    (e7_NoMoment : PySem.W.mroIn K a_NoMoment (.type "object") = some true)
    {a_FieldError : Addr} (n_FieldError : PySem.W.nsIn K mainGlobals "FieldError" = some (some (.ref a_FieldError)))
    (e0_FieldError : PySem.W.keepIn K (.ref a_FieldError) = true)
    (e1_FieldError : PySem.W.subIn K (.ref a_FieldError) (.type "BaseException") = some true)
    (e2_FieldError : PySem.W.typeIn K (.ref a_FieldError) = some (.type "type"))
    (e3_FieldError : PySem.W.hasDictIn K a_FieldError = true)
    (e4_FieldError : PySem.W.findIn K (.ref a_FieldError) "__getattribute__" = some (some (.builtin "BaseException.__getattribute__")))
    (e5_FieldError : PySem.W.findIn K (.ref a_FieldError) "__getattr__" = some none)
    (e6_FieldError : PySem.W.findIn K (.ref a_FieldError) "__class__" = some (some (.builtin "object.__class__")))
    (e7_FieldError : PySem.W.mroIn K a_FieldError (.type "object") = some true)
    {a_NoField : Addr} (n_NoField : PySem.W.nsIn K mainGlobals "NoField" = some (some (.ref a_NoField)))
    {a_NoRow : Addr} (n_NoRow : PySem.W.nsIn K mainGlobals "NoRow" = some (some (.ref a_NoRow)))
    {a_NoBook : Addr} (n_NoBook : PySem.W.nsIn K mainGlobals "NoBook" = some (some (.ref a_NoBook)))
    {a_NoClock : Addr} (n_NoClock : PySem.W.nsIn K mainGlobals "NoClock" = some (some (.ref a_NoClock)))
    {a_NoName : Addr} (n_NoName : PySem.W.nsIn K mainGlobals "NoName" = some (some (.ref a_NoName)))
    {a_NoWord : Addr} (n_NoWord : PySem.W.nsIn K mainGlobals "NoWord" = some (some (.ref a_NoWord)))
    (ecn : PySem.W.specialIn K (.builtin "object.__class__") "__get__" = some (some (.builtin "getset_descriptor.__get__"))) (ect : PySem.W.takesIn K (.builtin "object.__class__") = some true)
    (q_NoDay : PySem.W.excIn K a_NoDay veM "ValueError.__new__" = true)
    (q_NoMoment : PySem.W.excIn K a_NoMoment veM "ValueError.__new__" = true)
    (f_day : PySem.W.subIn K (.ref a_NoDay) (.ref a_NoDay) = some true)
    (f_sub : PySem.W.subIn K (.ref a_NoMoment) (.ref a_FieldError) = some true)
    (f_ve : PySem.W.kitOne K (.ref a_NoMoment) (.type "ValueError") = some true)
    (f_not : PySem.W.kitAny K (.ref a_NoMoment) [.ref a_NoDay, .ref a_NoField, .ref a_NoRow, .ref a_NoBook, .ref a_NoClock, .ref a_NoName, .ref a_NoWord] = some false)
    : ∃ fd : FuncData, (∀ (s : Shared) (u : Value), BindsTo s fd ⟨[u], []⟩ [("_law_script", u)]) ∧ ∀ base : Heap, K.In base → base.Ns mainGlobals mg → FnOk P w K mg base (L2N.CX P w) 6 fa fd ["_law_script"] (spD K 1 phiLaw) := by
  have T_is_whole := def_at (x := "is_whole") (st := s_is_whole) (ps := ["thing"]) X G a0 l0 c0 k0 (fun _ _ _ _ _ _ us hl => match us, hl with | [_], _ => rfl)
  have T_only_figures := def_at (x := "only_figures") (st := s_only_figures) (ps := ["signs"]) X G a1 l1 c1 k1 (fun _ _ _ _ _ _ us hl => match us, hl with | [_], _ => rfl)
  have T_is_long := def_at (x := "is_long") (st := s_is_long) (ps := ["year"]) X G a2 l2 c2 k2 (fun _ _ _ _ _ _ us hl => match us, hl with | [_], _ => rfl)
  have T_days_before := def_at (x := "days_before") (st := s_days_before) (ps := ["year"]) X G a3 l3 c3 k3 (fun _ _ _ _ _ _ us hl => match us, hl with | [_], _ => rfl)
  have T_last_of := def_at (x := "last_of") (st := s_last_of) (ps := ["year", "month"]) X G a4 l4 c4 k4 (fun _ _ _ _ _ _ us hl => match us, hl with | [_, _], _ => rfl)
  have T_day_of := def_at (x := "day_of") (st := s_day_of) (ps := ["year", "month", "day"]) X G a5 l5 c5 k5 (fun _ _ _ _ _ _ us hl => match us, hl with | [_, _, _], _ => rfl)
  have T_moment_of := def_at (x := "moment_of") (st := s_moment_of) (ps := ["day", "hour", "minute"]) X G a6 l6 c6 k6 (fun _ _ _ _ _ _ us hl => match us, hl with | [_, _, _], _ => rfl)
  have T_year_in := def_at (x := "year_in") (st := s_year_in) (ps := ["text"]) X G a7 l7 c7 k7 (fun _ _ _ _ _ _ us hl => match us, hl with | [_], _ => rfl)
  have T_read_moment := def_at (x := "read_moment") (st := s_read_moment) (ps := ["text"]) X G a8 l8 c8 k8 (fun _ _ _ _ _ _ us hl => match us, hl with | [_], _ => rfl)
  have T_law_cell_at := def_at (x := "_law_cell_at") (st := s_law_cell_at) (ps := ["_law_script", "_law_k"]) X G a9 l9 c9 k9 (fun _ _ _ _ _ _ us hl => match us, hl with | [_, _], _ => rfl)
  have T_law_whole := def_at (x := "_law_whole") (st := s_law_whole) (ps := ["_law_found"]) X G a10 l10 c10 k10 (fun _ _ _ _ _ _ us hl => match us, hl with | [_], _ => rfl)
  have T_law_long := def_at (x := "_law_long") (st := s_law_long) (ps := ["_law_year"]) X G a11 l11 c11 k11 (fun _ _ _ _ _ _ us hl => match us, hl with | [_], _ => rfl)
  have T_law_last := def_at (x := "_law_last") (st := s_law_last) (ps := ["_law_year", "_law_month"]) X G a12 l12 c12 k12 (fun _ _ _ _ _ _ us hl => match us, hl with | [_, _], _ => rfl)
  have T_law_two := def_at (x := "_law_two") (st := s_law_two) (ps := ["_law_number"]) X G a13 l13 c13 k13 (fun _ _ _ _ _ _ us hl => match us, hl with | [_], _ => rfl)
  have T_law_parts := def_at (x := "_law_parts") (st := s_law_parts) (ps := ["_law_one", "_law_other"]) X G a14 l14 c14 k14 (fun _ _ _ _ _ _ us hl => match us, hl with | [_, _], _ => rfl)
  have T_law_bad_number := def_at (x := "_law_bad_number") (st := s_law_bad_number) (ps := ["_law_cell", "_law_out"]) X G a15 l15 c15 k15 (fun _ _ _ _ _ _ us hl => match us, hl with | [_, _], _ => rfl)
  have T_law_bad := def_at (x := "_law_bad") (st := s_law_bad) (ps := ["_law_parts_here", "_law_last_here", "_law_at", "_law_cell"]) X G a16 l16 c16 k16 (fun _ _ _ _ _ _ us hl => match us, hl with | [_, _, _, _], _ => rfl)
  have T_law_refused := def_at (x := "_law_refused") (st := s_law_refused) (ps := ["_law_thing"]) X G a17 l17 c17 k17 (fun _ _ _ _ _ _ us hl => match us, hl with | [_], _ => rfl)
  have T_law_spoilt := def_at (x := "_law_spoilt") (st := s_law_spoilt) (ps := ["_law_parts_here", "_law_last_here", "_law_cell"]) X G a18 l18 c18 k18 (fun _ _ _ _ _ _ us hl => match us, hl with | [_, _, _], _ => rfl)
  have m_isinstance := PySem.W.mg_none_of X G z0
  have m_int := PySem.W.mg_none_of X G z1
  have m_bool := PySem.W.mg_none_of X G z2
  have m_sum := PySem.W.mg_none_of X G z3
  have m_range := PySem.W.mg_none_of X G z4
  have m_len := PySem.W.mg_none_of X G z5
  have m_str := PySem.W.mg_none_of X G z6
  have m_max := PySem.W.mg_none_of X G z7
  have m_ValueError := PySem.W.mg_none_of X G z8
  have m_list := PySem.W.mg_none_of X G z9
  have m_min := PySem.W.mg_none_of X G z10
  have g_FIGURES : GlD K mg "FIGURES" d_FIGURES := gl_tx (by decide +kernel) X G y0
  have g_LASTS : GlD K mg "LASTS" d_LASTS := gl_tup X G y1 q1 r1
  have g_DAY : GlD K mg "DAY" d_DAY := gl_int X G y2
  have g_HOUR : GlD K mg "HOUR" d_HOUR := gl_int X G y3
  have g_MOST_FIGURES : GlD K mg "MOST_FIGURES" d_MOST_FIGURES := gl_int X G y4
  have g_TAIL : GlD K mg "TAIL" d_TAIL := gl_int X G y5
  have x_NoDay : ExCls K mg "NoDay" a_NoDay := exCls_mk X G n_NoDay e0_NoDay e1_NoDay e2_NoDay e3_NoDay e4_NoDay e5_NoDay e6_NoDay e7_NoDay ecn ect
  have x_NoMoment : ExCls K mg "NoMoment" a_NoMoment := exCls_mk X G n_NoMoment e0_NoMoment e1_NoMoment e2_NoMoment e3_NoMoment e4_NoMoment e5_NoMoment e6_NoMoment e7_NoMoment ecn ect
  have x_FieldError : ExCls K mg "FieldError" a_FieldError := exCls_mk X G n_FieldError e0_FieldError e1_FieldError e2_FieldError e3_FieldError e4_FieldError e5_FieldError e6_FieldError e7_FieldError ecn ect
  have w_NoField : mg "NoField" = some (.ref a_NoField) := PySem.W.mg_of X G n_NoField
  have w_NoRow : mg "NoRow" = some (.ref a_NoRow) := PySem.W.mg_of X G n_NoRow
  have w_NoBook : mg "NoBook" = some (.ref a_NoBook) := PySem.W.mg_of X G n_NoBook
  have w_NoClock : mg "NoClock" = some (.ref a_NoClock) := PySem.W.mg_of X G n_NoClock
  have w_NoName : mg "NoName" = some (.ref a_NoName) := PySem.W.mg_of X G n_NoName
  have w_NoWord : mg "NoWord" = some (.ref a_NoWord) := PySem.W.mg_of X G n_NoWord
  exact law_mk X G hfa a19 l19 c19 k19 (fun _ _ _ _ _ _ us hl => match us, hl with | [_], _ => rfl) (fun s v => .of_eq rfl) fun fd T base => by
    have c_is_whole := ok_is_whole (P := P) (w := w) (base := base) T_is_whole m_isinstance m_int m_bool
    have c_only_figures := ok_only_figures (P := P) (w := w) (base := base) T_only_figures g_FIGURES
    have c_is_long := ok_is_long (P := P) (w := w) (base := base) T_is_long
    have c_days_before := ok_days_before (P := P) (w := w) (base := base) T_days_before
    have c_last_of := ok_last_of (P := P) (w := w) (base := base) T_last_of c_is_long g_LASTS
    have c_day_of : FnC P w K mg base "day_of" 3 3 (phi_day_of a_NoDay) := ok_day_of (P := P) (w := w) (base := base) T_day_of c_is_whole c_last_of c_days_before m_sum m_range x_NoDay q_NoDay
    have c_moment_of : FnC P w K mg base "moment_of" 2 3 (phi_moment_of a_NoMoment) := ok_moment_of (P := P) (w := w) (base := base) T_moment_of c_is_whole g_DAY g_HOUR x_NoMoment q_NoMoment
    have c_year_in : FnC P w K mg base "year_in" 2 1 (phi_year_in a_NoMoment) := ok_year_in (P := P) (w := w) (base := base) T_year_in c_only_figures m_len m_int g_MOST_FIGURES x_NoMoment q_NoMoment
    have c_read_moment : FnL P w K mg base "read_moment" 4 1 (phi_readM a_NoMoment) := ok_read_moment (P := P) (w := w) (base := base) T_read_moment c_only_figures c_year_in c_day_of c_moment_of m_isinstance m_str m_len m_int g_TAIL x_NoMoment x_NoDay q_NoMoment f_day
    have c_law_cell_at := ok_law_cell_at (P := P) (w := w) (base := base) T_law_cell_at m_len
    have c_law_whole := ok_law_whole (P := P) (w := w) (base := base) T_law_whole m_isinstance m_int m_bool
    have c_law_long := ok_law_long (P := P) (w := w) (base := base) T_law_long
    have c_law_last := ok_law_last (P := P) (w := w) (base := base) T_law_last c_law_long m_int
    have c_law_two := ok_law_two (P := P) (w := w) (base := base) T_law_two m_str
    have c_law_parts := ok_law_parts (P := P) (w := w) (base := base) T_law_parts c_law_last c_law_two m_str
    have c_law_bad_number := ok_law_bad_number (P := P) (w := w) (base := base) T_law_bad_number
    have c_law_bad := ok_law_bad (P := P) (w := w) (base := base) T_law_bad c_law_bad_number m_max m_str
    have c_law_refused : FnC P w K mg base "_law_refused" 5 1 (phi_law_refused a_NoMoment) := ok_law_refused (P := P) (w := w) (base := base) T_law_refused c_read_moment m_isinstance m_ValueError x_FieldError x_NoMoment x_NoDay w_NoField w_NoRow w_NoBook w_NoClock w_NoName w_NoWord f_sub f_ve f_not
    have c_law_spoilt := ok_law_spoilt (P := P) (w := w) (base := base) T_law_spoilt c_law_bad m_list
    exact ok_law T c_law_parts c_read_moment c_law_whole c_law_refused c_law_spoilt c_law_cell_at m_range m_max m_min m_len
end W18
open PySem PySem.W PyProof.Rows
set_option maxHeartbeats 0 in
theorem PySem.Challenge.cw_fivefields_k18_moments_refused_holds : PySem.Challenge.rw_fivefields_k18_moments_refused.Holds := by
  refine W18H.pre fun said => ?_
  refine W18H.head said ?hc
  k_fill
  refine PL.law_walk (l := PySem.Challenge.rw_fivefields_k18_moments_refused) (k := 6) (x := "_law_script") rfl (by kernel_rfl) ⟨rfl, by decide, by decide⟩ (fun w h Y => PySem.W.kIn_of Y) ?F
  case F =>
    intro w mg fa h KX G hmg
    refine' W18.all_mk KX G hmg ?a0 ?l0 ?c0 ?k0 ?a1 ?l1 ?c1 ?k1 ?a2 ?l2 ?c2 ?k2 ?a3 ?l3 ?c3 ?k3 ?a4 ?l4 ?c4 ?k4 ?a5 ?l5 ?c5 ?k5 ?a6 ?l6 ?c6 ?k6 ?a7 ?l7 ?c7 ?k7 ?a8 ?l8 ?c8 ?k8 ?a9 ?l9 ?c9 ?k9 ?a10 ?l10 ?c10 ?k10 ?a11 ?l11 ?c11 ?k11 ?a12 ?l12 ?c12 ?k12 ?a13 ?l13 ?c13 ?k13 ?a14 ?l14 ?c14 ?k14 ?a15 ?l15 ?c15 ?k15 ?a16 ?l16 ?c16 ?k16 ?a17 ?l17 ?c17 ?k17 ?a18 ?l18 ?c18 ?k18 ?a19 ?l19 ?c19 ?k19 ?z0 ?z1 ?z2 ?z3 ?z4 ?z5 ?z6 ?z7 ?z8 ?z9 ?z10 ?y0 ?y1 ?q1 ?r1 ?y2 ?y3 ?y4 ?y5 ?n_NoDay ?e0_NoDay ?e1_NoDay ?e2_NoDay ?e3_NoDay ?e4_NoDay ?e5_NoDay ?e6_NoDay ?e7_NoDay ?n_NoMoment ?e0_NoMoment ?e1_NoMoment ?e2_NoMoment ?e3_NoMoment ?e4_NoMoment ?e5_NoMoment ?e6_NoMoment ?e7_NoMoment ?n_FieldError ?e0_FieldError ?e1_FieldError ?e2_FieldError ?e3_FieldError ?e4_FieldError ?e5_FieldError ?e6_FieldError ?e7_FieldError ?n_NoField ?n_NoRow ?n_NoBook ?n_NoClock ?n_NoName ?n_NoWord ?ecn ?ect ?q_NoDay ?q_NoMoment ?f_day ?f_sub ?f_ve ?f_not
    (case a0 => k_is); (case l0 => k_is); (case c0 => k_is); (case k0 => k_is); (case a1 => k_is); (case l1 => k_is); (case c1 => k_is); (case k1 => k_is); (case a2 => k_is); (case l2 => k_is); (case c2 => k_is); (case k2 => k_is); (case a3 => k_is); (case l3 => k_is); (case c3 => k_is); (case k3 => k_is); (case a4 => k_is); (case l4 => k_is); (case c4 => k_is); (case k4 => k_is); (case a5 => k_is); (case l5 => k_is); (case c5 => k_is); (case k5 => k_is); (case a6 => k_is); (case l6 => k_is); (case c6 => k_is); (case k6 => k_is); (case a7 => k_is); (case l7 => k_is); (case c7 => k_is); (case k7 => k_is); (case a8 => k_is); (case l8 => k_is); (case c8 => k_is); (case k8 => k_is); (case a9 => k_is); (case l9 => k_is); (case c9 => k_is); (case k9 => k_is); (case a10 => k_is); (case l10 => k_is); (case c10 => k_is); (case k10 => k_is); (case a11 => k_is); (case l11 => k_is); (case c11 => k_is); (case k11 => k_is); (case a12 => k_is); (case l12 => k_is); (case c12 => k_is); (case k12 => k_is); (case a13 => k_is); (case l13 => k_is); (case c13 => k_is); (case k13 => k_is); (case a14 => k_is); (case l14 => k_is); (case c14 => k_is); (case k14 => k_is); (case a15 => k_is); (case l15 => k_is); (case c15 => k_is); (case k15 => k_is); (case a16 => k_is); (case l16 => k_is); (case c16 => k_is); (case k16 => k_is); (case a17 => k_is); (case l17 => k_is); (case c17 => k_is); (case k17 => k_is); (case a18 => k_is); (case l18 => k_is); (case c18 => k_is); (case k18 => k_is); (case a19 => k_is); (case l19 => k_is); (case c19 => k_is); (case k19 => k_is); (case z0 => k_is); (case z1 => k_is); (case z2 => k_is); (case z3 => k_is); (case z4 => k_is); (case z5 => k_is); (case z6 => k_is); (case z7 => k_is); (case z8 => k_is); (case z9 => k_is); (case z10 => k_is); (case y0 => k_is); (case y1 => k_is); (case q1 => k_is); (case r1 => rfl); (case y2 => k_is); (case y3 => k_is); (case y4 => k_is); (case y5 => k_is); (case n_NoDay => k_is); (case e0_NoDay => k_is); (case e1_NoDay => k_is); (case e2_NoDay => k_is); (case e3_NoDay => k_is); (case e4_NoDay => k_is); (case e5_NoDay => k_is); (case e6_NoDay => k_is); (case e7_NoDay => k_is); (case n_NoMoment => k_is); (case e0_NoMoment => k_is); (case e1_NoMoment => k_is); (case e2_NoMoment => k_is); (case e3_NoMoment => k_is); (case e4_NoMoment => k_is); (case e5_NoMoment => k_is); (case e6_NoMoment => k_is); (case e7_NoMoment => k_is); (case n_FieldError => k_is); (case e0_FieldError => k_is); (case e1_FieldError => k_is); (case e2_FieldError => k_is); (case e3_FieldError => k_is); (case e4_FieldError => k_is); (case e5_FieldError => k_is); (case e6_FieldError => k_is); (case e7_FieldError => k_is); (case n_NoField => k_is); (case n_NoRow => k_is); (case n_NoBook => k_is); (case n_NoClock => k_is); (case n_NoName => k_is); (case n_NoWord => k_is); (case ecn => k_is); (case ect => k_is); (case q_NoDay => k_exc); (case q_NoMoment => k_exc); (case f_day => k_is); (case f_sub => k_is); (case f_ve => kit_is); (case f_not => kit_is)
