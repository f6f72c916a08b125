import PyProof.Rows.All
import Wide.All
import OpenK.AllK
import Wide.FinOn
import HandS.ForMost
import HandS.ForExc
import HandS.Evl
import HandS.TupLe
import HandS.Walk
import HandS.ExcCtx
import HandS.IsInst
import HandS.Wide
import PyProof.LongRange
import HandS.Conv
import HandS.Deep
import HandS.ExcIs
import HandS.ExcOwn
import HandS.ExcField
import HandS.TryOnly
import HandS.Small
import HandS.HotCalls
import HandS.SuiteRaise
import HandS.ExcInit
import HandS.ExcInitHot
import KE.KExcIs
import PyProof.ExcBaseAll.ValueError
import HandS.New0
import HandS.Defaults
import HandS.Codes
import HandS.Iter
import PyProof.StrOps2
import KE.BitLaws
import HandS.Strs
import HandS.SetFor
import HandS.DeepEq
import HandS.IterVal
import HandS.Text
import KE.OsRunLaw
import PySem.Challenge.RW_fivefields_k24_first_wrong_item
set_option Elab.async false
set_option linter.all false
set_option maxRecDepth 100000
namespace W24
open PySem PySem.Spec L2
def tpS (p : Program) (i : Nat) : Stmt := p.main.body.getD i (.Pass ⟨0, 0, 0, 0⟩)
end W24
section
namespace W24H
open PySem PySem.W PySem.Spec L2 W24
def cs (l : List Nat) : Str := ⟨⟨l⟩⟩
def de (P : Params) (k : Str) (t : Nat) (v : Value) : DictEntry := ⟨PyData.keyHash P k, .str k t, v⟩
def k2 (p : Program) (P : Params) : Obj := ⟨.none, none, (.dict [].toArray 0), #[]⟩
def k3 (p : Program) (P : Params) : Obj := ⟨(.type "dict"), none, (.dict [de P (cs [95, 95, 110, 97, 109, 101, 95, 95]) 165 (.str (cs [108, 97, 119, 95, 102, 105, 118, 101, 102, 105, 101, 108, 100, 115, 95, 107, 50, 52, 95, 102, 105, 114, 115, 116, 95, 119, 114, 111, 110, 103, 95, 105, 116, 101, 109]) 429), de P (cs [95, 95, 100, 111, 99, 95, 95]) 166 .none, de P (cs [95, 95, 112, 97, 99, 107, 97, 103, 101, 95, 95]) 167 .none, de P (cs [95, 95, 108, 111, 97, 100, 101, 114, 95, 95]) 168 (.builtin "__main__.__loader__#opaque"), de P (cs [95, 95, 115, 112, 101, 99, 95, 95]) 169 .none, de P (cs [95, 95, 97, 110, 110, 111, 116, 97, 116, 105, 111, 110, 115, 95, 95]) 170 (.ref 6), de P (cs [95, 95, 98, 117, 105, 108, 116, 105, 110, 115, 95, 95]) 171 (.ref 4), de P (cs [95, 95, 102, 105, 108, 101, 95, 95]) 173 (.str (cs [47, 99, 108, 97, 105, 109, 47, 99, 117, 116, 46, 112, 121]) 172), de P (cs [95, 95, 99, 97, 99, 104, 101, 100, 95, 95]) 174 .none, de P (cs [70, 105, 101, 108, 100, 69, 114, 114, 111, 114]) 206 (.ref 24), de P (cs [78, 111, 68, 97, 121]) 222 (.ref 37), de P (cs [78, 111, 77, 111, 109, 101, 110, 116]) 238 (.ref 49), de P (cs [78, 111, 70, 105, 101, 108, 100]) 263 (.ref 68), de P (cs [78, 111, 82, 111, 119]) 288 (.ref 87), de P (cs [78, 111, 66, 111, 111, 107]) 304 (.ref 99), de P (cs [78, 111, 67, 108, 111, 99, 107]) 320 (.ref 111), de P (cs [78, 111, 78, 97, 109, 101]) 345 (.ref 130), de P (cs [78, 111, 87, 111, 114, 100]) 361 (.ref 142), de P (cs [70, 73, 71, 85, 82, 69, 83]) 365 (.str (cs [48, 49, 50, 51, 52, 53, 54, 55, 56, 57]) 364), de P (cs [111, 110, 108, 121, 95, 102, 105, 103, 117, 114, 101, 115]) 373 (.ref 151), de P (cs [77, 79, 83, 84, 95, 83, 73, 71, 78, 83]) 377 (.int (300) 376), de P (cs [77, 79, 83, 84, 95, 73, 84, 69, 77, 83]) 379 (.int (40) 378), de P (cs [77, 79, 83, 84, 95, 83, 84, 82, 73, 68, 69]) 381 (.int (99) 380), de P (cs [109, 97, 115, 107, 95, 111, 102]) 390 (.ref 158), de P (cs [110, 117, 109, 98, 101, 114, 95, 105, 110]) 396 (.ref 163), de P (cs [115, 112, 97, 110, 95, 105, 110]) 402 (.ref 168), de P (cs [105, 116, 101, 109, 95, 109, 97, 115, 107]) 414 (.ref 175), de P (cs [114, 101, 97, 100, 95, 102, 105, 101, 108, 100]) 428 (.ref 182), de P (cs [95, 108, 97, 119, 95, 99, 101, 108, 108, 95, 97, 116]) 438 (.ref 189), de P (cs [95, 108, 97, 119, 95, 115, 116, 105, 114]) 447 (.ref 196), de P (cs [95, 108, 97, 119, 95, 100, 105, 103, 105, 116, 115]) 458 (.ref 203), de P (cs [95, 108, 97, 119, 95, 119, 104, 111, 108, 101]) 465 (.ref 210), de P (cs [95, 108, 97, 119, 95, 98, 111, 117, 110, 100, 115]) 475 (.ref 217), de P (cs [95, 108, 97, 119, 95, 105, 116, 101, 109]) 492 (.ref 224), de P (cs [95, 108, 97, 119, 95, 116, 111, 108, 100]) 498 (.ref 229), de P (cs [95, 108, 97, 119, 95, 109, 97, 115, 107]) 507 (.ref 236), de P (cs [95, 108, 97, 119, 95, 119, 114, 111, 110, 103]) 518 (.ref 243), de P (cs [95, 108, 97, 119, 95, 114, 101, 102, 117, 115, 101, 100]) 529 (.ref 250), de P (cs [95, 108, 97, 119, 95, 114, 105, 103, 104, 116]) 542 (.ref 257), de P (cs [95, 108, 97, 119, 95, 115, 112, 111, 105, 108, 116]) 554 (.ref 264), de P (cs [95, 108, 97, 119, 95, 109, 97, 110, 121]) 560 (.ref 269), de P (cs [108, 97, 119]) 582 (.ref 276)].toArray 42), #[]⟩
def k15 (p : Program) (P : Params) : Obj := ⟨(.type "tuple"), none, (.seq #[(.type "ValueError")] 0), #[]⟩
def k22 (p : Program) (P : Params) : Obj := ⟨(.type "tuple"), none, (.seq #[] 0), #[]⟩
def k23 (p : Program) (P : Params) : Obj := ⟨(.type "dict"), none, (.dict [de P (cs [95, 95, 109, 111, 100, 117, 108, 101, 95, 95]) 196 (.str (cs [102, 105, 118, 101, 102, 105, 101, 108, 100, 115, 46, 101, 114, 114, 111, 114, 115]) 187), de P (cs [95, 95, 102, 105, 114, 115, 116, 108, 105, 110, 101, 110, 111, 95, 95]) 200 (.int (2) 199), de P (cs [95, 95, 115, 116, 97, 116, 105, 99, 95, 97, 116, 116, 114, 105, 98, 117, 116, 101, 115, 95, 95]) 201 (.ref 22), de P (cs [95, 95, 119, 101, 97, 107, 114, 101, 102, 95, 95]) 203 (.ref 25), de P (cs [95, 95, 100, 111, 99, 95, 95]) 204 .none].toArray 3), #[]⟩
def k24 (p : Program) (P : Params) : Obj := ⟨(.type "type"), none, (.cls { name := (cs [70, 105, 101, 108, 100, 69, 114, 114, 111, 114]), bases := [(.type "ValueError")], mro := [(.ref 24), (.type "ValueError"), (.type "Exception"), (.type "BaseException"), (.type "object")], ns := 23, qualname := (cs [70, 105, 101, 108, 100, 69, 114, 114, 111, 114]), hasDict := true, slotNames := [], subclasses := [(.ref 37), (.ref 49), (.ref 68), (.ref 87), (.ref 99), (.ref 111), (.ref 130), (.ref 142)], abstract := false, collection := none, hasDel := false }), #[(some (.ref 15)), none, (some (.str (cs [70, 105, 101, 108, 100, 69, 114, 114, 111, 114]) 189)), (some (.str (cs [70, 105, 101, 108, 100, 69, 114, 114, 111, 114]) 197)), (some (.builtin "ValueError.__new__")), (some (.bool true))]⟩
def k25 (p : Program) (P : Params) : Obj := ⟨(.type "getset_descriptor"), none, (.fields #[(.str (cs [95, 95, 119, 101, 97, 107, 114, 101, 102, 95, 95]) 202), (.ref 24), (.builtin "ExceptionGroup.__weakref__"), .none]), #[]⟩
def k28 (p : Program) (P : Params) : Obj := ⟨(.type "tuple"), none, (.seq #[(.ref 24)] 0), #[]⟩
def k35 (p : Program) (P : Params) : Obj := ⟨(.type "tuple"), none, (.seq #[] 0), #[]⟩
def k36 (p : Program) (P : Params) : Obj := ⟨(.type "dict"), none, (.dict [de P (cs [95, 95, 109, 111, 100, 117, 108, 101, 95, 95]) 214 (.str (cs [102, 105, 118, 101, 102, 105, 101, 108, 100, 115, 46, 101, 114, 114, 111, 114, 115]) 187), de P (cs [95, 95, 102, 105, 114, 115, 116, 108, 105, 110, 101, 110, 111, 95, 95]) 218 (.int (4) 217), de P (cs [95, 95, 115, 116, 97, 116, 105, 99, 95, 97, 116, 116, 114, 105, 98, 117, 116, 101, 115, 95, 95]) 219 (.ref 35), de P (cs [95, 95, 100, 111, 99, 95, 95]) 220 .none].toArray 2), #[]⟩
def k37 (p : Program) (P : Params) : Obj := ⟨(.type "type"), none, (.cls { name := (cs [78, 111, 68, 97, 121]), bases := [(.ref 24)], mro := [(.ref 37), (.ref 24), (.type "ValueError"), (.type "Exception"), (.type "BaseException"), (.type "object")], ns := 36, qualname := (cs [78, 111, 68, 97, 121]), hasDict := true, slotNames := [], subclasses := [], abstract := false, collection := none, hasDel := false }), #[(some (.ref 28)), none, (some (.str (cs [78, 111, 68, 97, 121]) 207)), (some (.str (cs [78, 111, 68, 97, 121]) 215)), (some (.builtin "ValueError.__new__")), (some (.bool true))]⟩
def k40 (p : Program) (P : Params) : Obj := ⟨(.type "tuple"), none, (.seq #[(.ref 24)] 0), #[]⟩
def k47 (p : Program) (P : Params) : Obj := ⟨(.type "tuple"), none, (.seq #[] 0), #[]⟩
def k48 (p : Program) (P : Params) : Obj := ⟨(.type "dict"), none, (.dict [de P (cs [95, 95, 109, 111, 100, 117, 108, 101, 95, 95]) 230 (.str (cs [102, 105, 118, 101, 102, 105, 101, 108, 100, 115, 46, 101, 114, 114, 111, 114, 115]) 187), de P (cs [95, 95, 102, 105, 114, 115, 116, 108, 105, 110, 101, 110, 111, 95, 95]) 234 (.int (6) 233), de P (cs [95, 95, 115, 116, 97, 116, 105, 99, 95, 97, 116, 116, 114, 105, 98, 117, 116, 101, 115, 95, 95]) 235 (.ref 47), de P (cs [95, 95, 100, 111, 99, 95, 95]) 236 .none].toArray 2), #[]⟩
def k49 (p : Program) (P : Params) : Obj := ⟨(.type "type"), none, (.cls { name := (cs [78, 111, 77, 111, 109, 101, 110, 116]), bases := [(.ref 24)], mro := [(.ref 49), (.ref 24), (.type "ValueError"), (.type "Exception"), (.type "BaseException"), (.type "object")], ns := 48, qualname := (cs [78, 111, 77, 111, 109, 101, 110, 116]), hasDict := true, slotNames := [], subclasses := [], abstract := false, collection := none, hasDel := false }), #[(some (.ref 40)), none, (some (.str (cs [78, 111, 77, 111, 109, 101, 110, 116]) 223)), (some (.str (cs [78, 111, 77, 111, 109, 101, 110, 116]) 231)), (some (.builtin "ValueError.__new__")), (some (.bool true))]⟩
def k52 (p : Program) (P : Params) : Obj := ⟨(.type "tuple"), none, (.seq #[(.ref 24)] 0), #[]⟩
def k59 (p : Program) (P : Params) : Obj := ⟨(.type "tuple"), none, (.seq #[] 0), #[]⟩
def k61 (p : Program) (P : Params) : Obj := ⟨(.type "tuple"), none, (.seq #[(.str (cs [115, 101, 108, 102]) 254), (.str (cs [97, 116]) 255)] 0), #[]⟩
def k62 (p : Program) (P : Params) : Obj := ⟨(.type "tuple"), none, (.seq #[] 0), #[]⟩
def k64 (p : Program) (P : Params) : Obj := ⟨(.type "code"), none, (.fields #[(.str (cs [95, 95, 105, 110, 105, 116, 95, 95]) 251), (.str (cs [78, 111, 70, 105, 101, 108, 100, 46, 95, 95, 105, 110, 105, 116, 95, 95]) 252), (.str (cs [47, 99, 108, 97, 105, 109, 47, 99, 117, 116, 46, 112, 121]) 253), (.int (10) 0), (.int (2) 0), (.int (0) 0), (.int (0) 0), (.int (3) 0), (.ref 59), (.bool true), (.int (181) 0), (.ref 60), .none, (.ref 61), (.ref 62), (.ref 63), (.int (256) 0), (.int (10) 0), (.str (cs [47, 99, 108, 97, 105, 109, 47, 99, 117, 116, 46, 112, 121]) 257)]), #[]⟩
def k65 (p : Program) (P : Params) : Obj := ⟨(.type "function"), none, (.func (fnOf "__init__" "NoField.__init__" (defArgs (inClass (tpS p 4) 0)) (defBody (inClass (tpS p 4) 0)) (defScope (inClass (tpS p 4) 0)) .none .none .none (.str (cs [102, 105, 118, 101, 102, 105, 101, 108, 100, 115, 46, 101, 114, 114, 111, 114, 115]) 187) none (.ref 64) .none)), #[]⟩
def k66 (p : Program) (P : Params) : Obj := ⟨(.type "tuple"), none, (.seq #[(.str (cs [97, 116]) 259)] 0), #[]⟩
def k67 (p : Program) (P : Params) : Obj := ⟨(.type "dict"), none, (.dict [de P (cs [95, 95, 109, 111, 100, 117, 108, 101, 95, 95]) 246 (.str (cs [102, 105, 118, 101, 102, 105, 101, 108, 100, 115, 46, 101, 114, 114, 111, 114, 115]) 187), de P (cs [95, 95, 102, 105, 114, 115, 116, 108, 105, 110, 101, 110, 111, 95, 95]) 250 (.int (8) 249), de P (cs [95, 95, 105, 110, 105, 116, 95, 95]) 258 (.ref 65), de P (cs [95, 95, 115, 116, 97, 116, 105, 99, 95, 97, 116, 116, 114, 105, 98, 117, 116, 101, 115, 95, 95]) 260 (.ref 66), de P (cs [95, 95, 100, 111, 99, 95, 95]) 261 .none].toArray 2), #[]⟩
def k68 (p : Program) (P : Params) : Obj := ⟨(.type "type"), none, (.cls { name := (cs [78, 111, 70, 105, 101, 108, 100]), bases := [(.ref 24)], mro := [(.ref 68), (.ref 24), (.type "ValueError"), (.type "Exception"), (.type "BaseException"), (.type "object")], ns := 67, qualname := (cs [78, 111, 70, 105, 101, 108, 100]), hasDict := true, slotNames := [], subclasses := [], abstract := false, collection := none, hasDel := false }), #[(some (.ref 52)), none, (some (.str (cs [78, 111, 70, 105, 101, 108, 100]) 239)), (some (.str (cs [78, 111, 70, 105, 101, 108, 100]) 247)), (some (.builtin "ValueError.__new__")), (some (.bool true))]⟩
def k71 (p : Program) (P : Params) : Obj := ⟨(.type "tuple"), none, (.seq #[(.ref 24)] 0), #[]⟩
def k78 (p : Program) (P : Params) : Obj := ⟨(.type "tuple"), none, (.seq #[] 0), #[]⟩
def k80 (p : Program) (P : Params) : Obj := ⟨(.type "tuple"), none, (.seq #[(.str (cs [115, 101, 108, 102]) 279), (.str (cs [112, 108, 97, 99, 101]) 280)] 0), #[]⟩
def k81 (p : Program) (P : Params) : Obj := ⟨(.type "tuple"), none, (.seq #[] 0), #[]⟩
def k83 (p : Program) (P : Params) : Obj := ⟨(.type "code"), none, (.fields #[(.str (cs [95, 95, 105, 110, 105, 116, 95, 95]) 276), (.str (cs [78, 111, 82, 111, 119, 46, 95, 95, 105, 110, 105, 116, 95, 95]) 277), (.str (cs [47, 99, 108, 97, 105, 109, 47, 99, 117, 116, 46, 112, 121]) 278), (.int (15) 0), (.int (2) 0), (.int (0) 0), (.int (0) 0), (.int (3) 0), (.ref 78), (.bool true), (.int (181) 0), (.ref 79), .none, (.ref 80), (.ref 81), (.ref 82), (.int (281) 0), (.int (15) 0), (.str (cs [47, 99, 108, 97, 105, 109, 47, 99, 117, 116, 46, 112, 121]) 282)]), #[]⟩
def k84 (p : Program) (P : Params) : Obj := ⟨(.type "function"), none, (.func (fnOf "__init__" "NoRow.__init__" (defArgs (inClass (tpS p 5) 0)) (defBody (inClass (tpS p 5) 0)) (defScope (inClass (tpS p 5) 0)) .none .none .none (.str (cs [102, 105, 118, 101, 102, 105, 101, 108, 100, 115, 46, 101, 114, 114, 111, 114, 115]) 187) none (.ref 83) .none)), #[]⟩
def k85 (p : Program) (P : Params) : Obj := ⟨(.type "tuple"), none, (.seq #[(.str (cs [112, 108, 97, 99, 101]) 284)] 0), #[]⟩
def k86 (p : Program) (P : Params) : Obj := ⟨(.type "dict"), none, (.dict [de P (cs [95, 95, 109, 111, 100, 117, 108, 101, 95, 95]) 271 (.str (cs [102, 105, 118, 101, 102, 105, 101, 108, 100, 115, 46, 101, 114, 114, 111, 114, 115]) 187), de P (cs [95, 95, 102, 105, 114, 115, 116, 108, 105, 110, 101, 110, 111, 95, 95]) 275 (.int (13) 274), de P (cs [95, 95, 105, 110, 105, 116, 95, 95]) 283 (.ref 84), de P (cs [95, 95, 115, 116, 97, 116, 105, 99, 95, 97, 116, 116, 114, 105, 98, 117, 116, 101, 115, 95, 95]) 285 (.ref 85), de P (cs [95, 95, 100, 111, 99, 95, 95]) 286 .none].toArray 2), #[]⟩
def k87 (p : Program) (P : Params) : Obj := ⟨(.type "type"), none, (.cls { name := (cs [78, 111, 82, 111, 119]), bases := [(.ref 24)], mro := [(.ref 87), (.ref 24), (.type "ValueError"), (.type "Exception"), (.type "BaseException"), (.type "object")], ns := 86, qualname := (cs [78, 111, 82, 111, 119]), hasDict := true, slotNames := [], subclasses := [], abstract := false, collection := none, hasDel := false }), #[(some (.ref 71)), none, (some (.str (cs [78, 111, 82, 111, 119]) 264)), (some (.str (cs [78, 111, 82, 111, 119]) 272)), (some (.builtin "ValueError.__new__")), (some (.bool true))]⟩
def k90 (p : Program) (P : Params) : Obj := ⟨(.type "tuple"), none, (.seq #[(.ref 24)] 0), #[]⟩
def k97 (p : Program) (P : Params) : Obj := ⟨(.type "tuple"), none, (.seq #[] 0), #[]⟩
def k98 (p : Program) (P : Params) : Obj := ⟨(.type "dict"), none, (.dict [de P (cs [95, 95, 109, 111, 100, 117, 108, 101, 95, 95]) 296 (.str (cs [102, 105, 118, 101, 102, 105, 101, 108, 100, 115, 46, 101, 114, 114, 111, 114, 115]) 187), de P (cs [95, 95, 102, 105, 114, 115, 116, 108, 105, 110, 101, 110, 111, 95, 95]) 300 (.int (18) 299), de P (cs [95, 95, 115, 116, 97, 116, 105, 99, 95, 97, 116, 116, 114, 105, 98, 117, 116, 101, 115, 95, 95]) 301 (.ref 97), de P (cs [95, 95, 100, 111, 99, 95, 95]) 302 .none].toArray 2), #[]⟩
def k99 (p : Program) (P : Params) : Obj := ⟨(.type "type"), none, (.cls { name := (cs [78, 111, 66, 111, 111, 107]), bases := [(.ref 24)], mro := [(.ref 99), (.ref 24), (.type "ValueError"), (.type "Exception"), (.type "BaseException"), (.type "object")], ns := 98, qualname := (cs [78, 111, 66, 111, 111, 107]), hasDict := true, slotNames := [], subclasses := [], abstract := false, collection := none, hasDel := false }), #[(some (.ref 90)), none, (some (.str (cs [78, 111, 66, 111, 111, 107]) 289)), (some (.str (cs [78, 111, 66, 111, 111, 107]) 297)), (some (.builtin "ValueError.__new__")), (some (.bool true))]⟩
def k102 (p : Program) (P : Params) : Obj := ⟨(.type "tuple"), none, (.seq #[(.ref 24)] 0), #[]⟩
def k109 (p : Program) (P : Params) : Obj := ⟨(.type "tuple"), none, (.seq #[] 0), #[]⟩
def k110 (p : Program) (P : Params) : Obj := ⟨(.type "dict"), none, (.dict [de P (cs [95, 95, 109, 111, 100, 117, 108, 101, 95, 95]) 312 (.str (cs [102, 105, 118, 101, 102, 105, 101, 108, 100, 115, 46, 101, 114, 114, 111, 114, 115]) 187), de P (cs [95, 95, 102, 105, 114, 115, 116, 108, 105, 110, 101, 110, 111, 95, 95]) 316 (.int (20) 315), de P (cs [95, 95, 115, 116, 97, 116, 105, 99, 95, 97, 116, 116, 114, 105, 98, 117, 116, 101, 115, 95, 95]) 317 (.ref 109), de P (cs [95, 95, 100, 111, 99, 95, 95]) 318 .none].toArray 2), #[]⟩
def k111 (p : Program) (P : Params) : Obj := ⟨(.type "type"), none, (.cls { name := (cs [78, 111, 67, 108, 111, 99, 107]), bases := [(.ref 24)], mro := [(.ref 111), (.ref 24), (.type "ValueError"), (.type "Exception"), (.type "BaseException"), (.type "object")], ns := 110, qualname := (cs [78, 111, 67, 108, 111, 99, 107]), hasDict := true, slotNames := [], subclasses := [], abstract := false, collection := none, hasDel := false }), #[(some (.ref 102)), none, (some (.str (cs [78, 111, 67, 108, 111, 99, 107]) 305)), (some (.str (cs [78, 111, 67, 108, 111, 99, 107]) 313)), (some (.builtin "ValueError.__new__")), (some (.bool true))]⟩
def k114 (p : Program) (P : Params) : Obj := ⟨(.type "tuple"), none, (.seq #[(.ref 24)] 0), #[]⟩
def k121 (p : Program) (P : Params) : Obj := ⟨(.type "tuple"), none, (.seq #[] 0), #[]⟩
def k123 (p : Program) (P : Params) : Obj := ⟨(.type "tuple"), none, (.seq #[(.str (cs [115, 101, 108, 102]) 336), (.str (cs [110, 97, 109, 101]) 337)] 0), #[]⟩
def k124 (p : Program) (P : Params) : Obj := ⟨(.type "tuple"), none, (.seq #[] 0), #[]⟩
def k126 (p : Program) (P : Params) : Obj := ⟨(.type "code"), none, (.fields #[(.str (cs [95, 95, 105, 110, 105, 116, 95, 95]) 333), (.str (cs [78, 111, 78, 97, 109, 101, 46, 95, 95, 105, 110, 105, 116, 95, 95]) 334), (.str (cs [47, 99, 108, 97, 105, 109, 47, 99, 117, 116, 46, 112, 121]) 335), (.int (24) 0), (.int (2) 0), (.int (0) 0), (.int (0) 0), (.int (3) 0), (.ref 121), (.bool true), (.int (181) 0), (.ref 122), .none, (.ref 123), (.ref 124), (.ref 125), (.int (338) 0), (.int (24) 0), (.str (cs [47, 99, 108, 97, 105, 109, 47, 99, 117, 116, 46, 112, 121]) 339)]), #[]⟩
def k127 (p : Program) (P : Params) : Obj := ⟨(.type "function"), none, (.func (fnOf "__init__" "NoName.__init__" (defArgs (inClass (tpS p 8) 0)) (defBody (inClass (tpS p 8) 0)) (defScope (inClass (tpS p 8) 0)) .none .none .none (.str (cs [102, 105, 118, 101, 102, 105, 101, 108, 100, 115, 46, 101, 114, 114, 111, 114, 115]) 187) none (.ref 126) .none)), #[]⟩
def k128 (p : Program) (P : Params) : Obj := ⟨(.type "tuple"), none, (.seq #[(.str (cs [110, 97, 109, 101]) 341)] 0), #[]⟩
def k129 (p : Program) (P : Params) : Obj := ⟨(.type "dict"), none, (.dict [de P (cs [95, 95, 109, 111, 100, 117, 108, 101, 95, 95]) 328 (.str (cs [102, 105, 118, 101, 102, 105, 101, 108, 100, 115, 46, 101, 114, 114, 111, 114, 115]) 187), de P (cs [95, 95, 102, 105, 114, 115, 116, 108, 105, 110, 101, 110, 111, 95, 95]) 332 (.int (22) 331), de P (cs [95, 95, 105, 110, 105, 116, 95, 95]) 340 (.ref 127), de P (cs [95, 95, 115, 116, 97, 116, 105, 99, 95, 97, 116, 116, 114, 105, 98, 117, 116, 101, 115, 95, 95]) 342 (.ref 128), de P (cs [95, 95, 100, 111, 99, 95, 95]) 343 .none].toArray 2), #[]⟩
def k130 (p : Program) (P : Params) : Obj := ⟨(.type "type"), none, (.cls { name := (cs [78, 111, 78, 97, 109, 101]), bases := [(.ref 24)], mro := [(.ref 130), (.ref 24), (.type "ValueError"), (.type "Exception"), (.type "BaseException"), (.type "object")], ns := 129, qualname := (cs [78, 111, 78, 97, 109, 101]), hasDict := true, slotNames := [], subclasses := [], abstract := false, collection := none, hasDel := false }), #[(some (.ref 114)), none, (some (.str (cs [78, 111, 78, 97, 109, 101]) 321)), (some (.str (cs [78, 111, 78, 97, 109, 101]) 329)), (some (.builtin "ValueError.__new__")), (some (.bool true))]⟩
def k133 (p : Program) (P : Params) : Obj := ⟨(.type "tuple"), none, (.seq #[(.ref 24)] 0), #[]⟩
def k140 (p : Program) (P : Params) : Obj := ⟨(.type "tuple"), none, (.seq #[] 0), #[]⟩
def k141 (p : Program) (P : Params) : Obj := ⟨(.type "dict"), none, (.dict [de P (cs [95, 95, 109, 111, 100, 117, 108, 101, 95, 95]) 353 (.str (cs [102, 105, 118, 101, 102, 105, 101, 108, 100, 115, 46, 101, 114, 114, 111, 114, 115]) 187), de P (cs [95, 95, 102, 105, 114, 115, 116, 108, 105, 110, 101, 110, 111, 95, 95]) 357 (.int (27) 356), de P (cs [95, 95, 115, 116, 97, 116, 105, 99, 95, 97, 116, 116, 114, 105, 98, 117, 116, 101, 115, 95, 95]) 358 (.ref 140), de P (cs [95, 95, 100, 111, 99, 95, 95]) 359 .none].toArray 2), #[]⟩
def k142 (p : Program) (P : Params) : Obj := ⟨(.type "type"), none, (.cls { name := (cs [78, 111, 87, 111, 114, 100]), bases := [(.ref 24)], mro := [(.ref 142), (.ref 24), (.type "ValueError"), (.type "Exception"), (.type "BaseException"), (.type "object")], ns := 141, qualname := (cs [78, 111, 87, 111, 114, 100]), hasDict := true, slotNames := [], subclasses := [], abstract := false, collection := none, hasDel := false }), #[(some (.ref 133)), none, (some (.str (cs [78, 111, 87, 111, 114, 100]) 346)), (some (.str (cs [78, 111, 87, 111, 114, 100]) 354)), (some (.builtin "ValueError.__new__")), (some (.bool true))]⟩
def k145 (p : Program) (P : Params) : Obj := ⟨(.type "tuple"), none, (.seq #[] 0), #[]⟩
def k147 (p : Program) (P : Params) : Obj := ⟨(.type "tuple"), none, (.seq #[(.str (cs [115, 105, 103, 110, 115]) 369), (.str (cs [115, 105, 103, 110]) 370)] 0), #[]⟩
def k148 (p : Program) (P : Params) : Obj := ⟨(.type "tuple"), none, (.seq #[] 0), #[]⟩
def k150 (p : Program) (P : Params) : Obj := ⟨(.type "code"), none, (.fields #[(.str (cs [111, 110, 108, 121, 95, 102, 105, 103, 117, 114, 101, 115]) 366), (.str (cs [111, 110, 108, 121, 95, 102, 105, 103, 117, 114, 101, 115]) 367), (.str (cs [47, 99, 108, 97, 105, 109, 47, 99, 117, 116, 46, 112, 121]) 368), (.int (31) 0), (.int (1) 0), (.int (0) 0), (.int (0) 0), (.int (3) 0), (.ref 145), (.bool true), (.int (181) 0), (.ref 146), .none, (.ref 147), (.ref 148), (.ref 149), (.int (371) 0), (.int (31) 0), (.str (cs [47, 99, 108, 97, 105, 109, 47, 99, 117, 116, 46, 112, 121]) 372)]), #[]⟩
def k151 (p : Program) (P : Params) : Obj := ⟨(.type "function"), none, (.func (fnOf "only_figures" "only_figures" (defArgs (tpS p 12)) (defBody (tpS p 12)) (defScope (tpS p 12)) .none .none .none (.str (cs [102, 105, 118, 101, 102, 105, 101, 108, 100, 115, 46, 119, 104, 111, 108, 101, 115]) 362) none (.ref 150) .none)), #[]⟩
def k152 (p : Program) (P : Params) : Obj := ⟨(.type "tuple"), none, (.seq #[] 0), #[]⟩
def k154 (p : Program) (P : Params) : Obj := ⟨(.type "tuple"), none, (.seq #[(.str (cs [110, 117, 109, 98, 101, 114, 115]) 385), (.str (cs [109, 97, 115, 107]) 386), (.str (cs [110, 117, 109, 98, 101, 114]) 387)] 0), #[]⟩
def k155 (p : Program) (P : Params) : Obj := ⟨(.type "tuple"), none, (.seq #[] 0), #[]⟩
def k157 (p : Program) (P : Params) : Obj := ⟨(.type "code"), none, (.fields #[(.str (cs [109, 97, 115, 107, 95, 111, 102]) 382), (.str (cs [109, 97, 115, 107, 95, 111, 102]) 383), (.str (cs [47, 99, 108, 97, 105, 109, 47, 99, 117, 116, 46, 112, 121]) 384), (.int (40) 0), (.int (1) 0), (.int (0) 0), (.int (0) 0), (.int (3) 0), (.ref 152), (.bool true), (.int (181) 0), (.ref 153), .none, (.ref 154), (.ref 155), (.ref 156), (.int (388) 0), (.int (40) 0), (.str (cs [47, 99, 108, 97, 105, 109, 47, 99, 117, 116, 46, 112, 121]) 389)]), #[]⟩
def k158 (p : Program) (P : Params) : Obj := ⟨(.type "function"), none, (.func (fnOf "mask_of" "mask_of" (defArgs (tpS p 17)) (defBody (tpS p 17)) (defScope (tpS p 17)) .none .none .none (.str (cs [102, 105, 118, 101, 102, 105, 101, 108, 100, 115, 46, 102, 105, 101, 108, 100, 115]) 374) none (.ref 157) .none)), #[]⟩
def k159 (p : Program) (P : Params) : Obj := ⟨(.type "tuple"), none, (.seq #[] 0), #[]⟩
def k162 (p : Program) (P : Params) : Obj := ⟨(.type "code"), none, (.fields #[(.str (cs [110, 117, 109, 98, 101, 114, 95, 105, 110]) 391), (.str (cs [110, 117, 109, 98, 101, 114, 95, 105, 110]) 392), (.str (cs [47, 99, 108, 97, 105, 109, 47, 99, 117, 116, 46, 112, 121]) 393), (.int (45) 0), (.int (3) 0), (.int (0) 0), (.int (0) 0), (.int (3) 0), (.ref 159), (.bool true), (.int (181) 0), (.ref 160), .none, .none, .none, (.ref 161), (.int (394) 0), (.int (45) 0), (.str (cs [47, 99, 108, 97, 105, 109, 47, 99, 117, 116, 46, 112, 121]) 395)]), #[]⟩
def k163 (p : Program) (P : Params) : Obj := ⟨(.type "function"), none, (.func (fnOf "number_in" "number_in" (defArgs (tpS p 18)) (defBody (tpS p 18)) (defScope (tpS p 18)) .none .none .none (.str (cs [102, 105, 118, 101, 102, 105, 101, 108, 100, 115, 46, 102, 105, 101, 108, 100, 115]) 374) none (.ref 162) .none)), #[]⟩
def k164 (p : Program) (P : Params) : Obj := ⟨(.type "tuple"), none, (.seq #[] 0), #[]⟩
def k167 (p : Program) (P : Params) : Obj := ⟨(.type "code"), none, (.fields #[(.str (cs [115, 112, 97, 110, 95, 105, 110]) 397), (.str (cs [115, 112, 97, 110, 95, 105, 110]) 398), (.str (cs [47, 99, 108, 97, 105, 109, 47, 99, 117, 116, 46, 112, 121]) 399), (.int (49) 0), (.int (3) 0), (.int (0) 0), (.int (0) 0), (.int (3) 0), (.ref 164), (.bool true), (.int (181) 0), (.ref 165), .none, .none, .none, (.ref 166), (.int (400) 0), (.int (49) 0), (.str (cs [47, 99, 108, 97, 105, 109, 47, 99, 117, 116, 46, 112, 121]) 401)]), #[]⟩
def k168 (p : Program) (P : Params) : Obj := ⟨(.type "function"), none, (.func (fnOf "span_in" "span_in" (defArgs (tpS p 19)) (defBody (tpS p 19)) (defScope (tpS p 19)) .none .none .none (.str (cs [102, 105, 118, 101, 102, 105, 101, 108, 100, 115, 46, 102, 105, 101, 108, 100, 115]) 374) none (.ref 167) .none)), #[]⟩
def k169 (p : Program) (P : Params) : Obj := ⟨(.type "tuple"), none, (.seq #[] 0), #[]⟩
def k171 (p : Program) (P : Params) : Obj := ⟨(.type "tuple"), none, (.seq #[(.str (cs [105, 116, 101, 109]) 406), (.str (cs [108, 111, 119]) 407), (.str (cs [104, 105, 103, 104]) 408), (.str (cs [104, 97, 108, 118, 101, 115]) 409), (.str (cs [115, 112, 97, 110]) 410), (.str (cs [115, 116, 114, 105, 100, 101]) 411)] 0), #[]⟩
def k172 (p : Program) (P : Params) : Obj := ⟨(.type "tuple"), none, (.seq #[] 0), #[]⟩
def k174 (p : Program) (P : Params) : Obj := ⟨(.type "code"), none, (.fields #[(.str (cs [105, 116, 101, 109, 95, 109, 97, 115, 107]) 403), (.str (cs [105, 116, 101, 109, 95, 109, 97, 115, 107]) 404), (.str (cs [47, 99, 108, 97, 105, 109, 47, 99, 117, 116, 46, 112, 121]) 405), (.int (56) 0), (.int (3) 0), (.int (0) 0), (.int (0) 0), (.int (3) 0), (.ref 169), (.bool true), (.int (181) 0), (.ref 170), .none, (.ref 171), (.ref 172), (.ref 173), (.int (412) 0), (.int (56) 0), (.str (cs [47, 99, 108, 97, 105, 109, 47, 99, 117, 116, 46, 112, 121]) 413)]), #[]⟩
def k175 (p : Program) (P : Params) : Obj := ⟨(.type "function"), none, (.func (fnOf "item_mask" "item_mask" (defArgs (tpS p 20)) (defBody (tpS p 20)) (defScope (tpS p 20)) .none .none .none (.str (cs [102, 105, 118, 101, 102, 105, 101, 108, 100, 115, 46, 102, 105, 101, 108, 100, 115]) 374) none (.ref 174) .none)), #[]⟩
def k176 (p : Program) (P : Params) : Obj := ⟨(.type "tuple"), none, (.seq #[] 0), #[]⟩
def k178 (p : Program) (P : Params) : Obj := ⟨(.type "tuple"), none, (.seq #[(.str (cs [116, 101, 120, 116]) 418), (.str (cs [108, 111, 119]) 419), (.str (cs [104, 105, 103, 104]) 420), (.str (cs [109, 97, 115, 107]) 421), (.str (cs [105, 116, 101, 109, 115]) 422), (.str (cs [97, 116]) 423), (.str (cs [105, 116, 101, 109]) 424), (.str (cs [104, 101, 114, 101]) 425)] 0), #[]⟩
def k179 (p : Program) (P : Params) : Obj := ⟨(.type "tuple"), none, (.seq #[] 0), #[]⟩
def k181 (p : Program) (P : Params) : Obj := ⟨(.type "code"), none, (.fields #[(.str (cs [114, 101, 97, 100, 95, 102, 105, 101, 108, 100]) 415), (.str (cs [114, 101, 97, 100, 95, 102, 105, 101, 108, 100]) 416), (.str (cs [47, 99, 108, 97, 105, 109, 47, 99, 117, 116, 46, 112, 121]) 417), (.int (69) 0), (.int (3) 0), (.int (0) 0), (.int (0) 0), (.int (3) 0), (.ref 176), (.bool true), (.int (181) 0), (.ref 177), .none, (.ref 178), (.ref 179), (.ref 180), (.int (426) 0), (.int (69) 0), (.str (cs [47, 99, 108, 97, 105, 109, 47, 99, 117, 116, 46, 112, 121]) 427)]), #[]⟩
def k182 (p : Program) (P : Params) : Obj := ⟨(.type "function"), none, (.func (fnOf "read_field" "read_field" (defArgs (tpS p 21)) (defBody (tpS p 21)) (defScope (tpS p 21)) .none .none .none (.str (cs [102, 105, 118, 101, 102, 105, 101, 108, 100, 115, 46, 102, 105, 101, 108, 100, 115]) 374) none (.ref 181) .none)), #[]⟩
def k183 (p : Program) (P : Params) : Obj := ⟨(.type "tuple"), none, (.seq #[] 0), #[]⟩
def k185 (p : Program) (P : Params) : Obj := ⟨(.type "tuple"), none, (.seq #[(.str (cs [95, 108, 97, 119, 95, 115, 99, 114, 105, 112, 116]) 434), (.str (cs [95, 108, 97, 119, 95, 107]) 435)] 0), #[]⟩
def k186 (p : Program) (P : Params) : Obj := ⟨(.type "tuple"), none, (.seq #[] 0), #[]⟩
def k188 (p : Program) (P : Params) : Obj := ⟨(.type "code"), none, (.fields #[(.str (cs [95, 108, 97, 119, 95, 99, 101, 108, 108, 95, 97, 116]) 431), (.str (cs [95, 108, 97, 119, 95, 99, 101, 108, 108, 95, 97, 116]) 432), (.str (cs [47, 99, 108, 97, 105, 109, 47, 99, 117, 116, 46, 112, 121]) 433), (.int (83) 0), (.int (2) 0), (.int (0) 0), (.int (0) 0), (.int (3) 0), (.ref 183), (.bool true), (.int (181) 0), (.ref 184), .none, (.ref 185), (.ref 186), (.ref 187), (.int (436) 0), (.int (83) 0), (.str (cs [47, 99, 108, 97, 105, 109, 47, 99, 117, 116, 46, 112, 121]) 437)]), #[]⟩
def k189 (p : Program) (P : Params) : Obj := ⟨(.type "function"), none, (.func (fnOf "_law_cell_at" "_law_cell_at" (defArgs (tpS p 23)) (defBody (tpS p 23)) (defScope (tpS p 23)) .none .none .none (.str (cs [108, 97, 119, 95, 102, 105, 118, 101, 102, 105, 101, 108, 100, 115, 95, 107, 50, 52, 95, 102, 105, 114, 115, 116, 95, 119, 114, 111, 110, 103, 95, 105, 116, 101, 109]) 429) none (.ref 188) .none)), #[]⟩
def k190 (p : Program) (P : Params) : Obj := ⟨(.type "tuple"), none, (.seq #[] 0), #[]⟩
def k192 (p : Program) (P : Params) : Obj := ⟨(.type "tuple"), none, (.seq #[(.str (cs [95, 108, 97, 119, 95, 110, 117, 109, 98, 101, 114]) 442), (.str (cs [95, 108, 97, 119, 95, 102, 105, 114, 115, 116]) 443), (.str (cs [95, 108, 97, 119, 95, 115, 101, 99, 111, 110, 100]) 444)] 0), #[]⟩
def k193 (p : Program) (P : Params) : Obj := ⟨(.type "tuple"), none, (.seq #[] 0), #[]⟩
def k195 (p : Program) (P : Params) : Obj := ⟨(.type "code"), none, (.fields #[(.str (cs [95, 108, 97, 119, 95, 115, 116, 105, 114]) 439), (.str (cs [95, 108, 97, 119, 95, 115, 116, 105, 114]) 440), (.str (cs [47, 99, 108, 97, 105, 109, 47, 99, 117, 116, 46, 112, 121]) 441), (.int (87) 0), (.int (1) 0), (.int (0) 0), (.int (0) 0), (.int (3) 0), (.ref 190), (.bool true), (.int (181) 0), (.ref 191), .none, (.ref 192), (.ref 193), (.ref 194), (.int (445) 0), (.int (87) 0), (.str (cs [47, 99, 108, 97, 105, 109, 47, 99, 117, 116, 46, 112, 121]) 446)]), #[]⟩
def k196 (p : Program) (P : Params) : Obj := ⟨(.type "function"), none, (.func (fnOf "_law_stir" "_law_stir" (defArgs (tpS p 24)) (defBody (tpS p 24)) (defScope (tpS p 24)) .none .none .none (.str (cs [108, 97, 119, 95, 102, 105, 118, 101, 102, 105, 101, 108, 100, 115, 95, 107, 50, 52, 95, 102, 105, 114, 115, 116, 95, 119, 114, 111, 110, 103, 95, 105, 116, 101, 109]) 429) none (.ref 195) .none)), #[]⟩
def k197 (p : Program) (P : Params) : Obj := ⟨(.type "tuple"), none, (.seq #[] 0), #[]⟩
def k199 (p : Program) (P : Params) : Obj := ⟨(.type "tuple"), none, (.seq #[(.str (cs [95, 108, 97, 119, 95, 99, 101, 108, 108]) 451), (.str (cs [95, 108, 97, 119, 95, 115, 105, 122, 101, 115]) 452), (.str (cs [95, 108, 97, 119, 95, 109, 105, 120, 101, 100]) 453), (.str (cs [95, 108, 97, 119, 95, 102, 111, 117, 110, 100]) 454), (.str (cs [95, 108, 97, 119, 95, 115, 105, 122, 101]) 455)] 0), #[]⟩
def k200 (p : Program) (P : Params) : Obj := ⟨(.type "tuple"), none, (.seq #[] 0), #[]⟩
def k202 (p : Program) (P : Params) : Obj := ⟨(.type "code"), none, (.fields #[(.str (cs [95, 108, 97, 119, 95, 100, 105, 103, 105, 116, 115]) 448), (.str (cs [95, 108, 97, 119, 95, 100, 105, 103, 105, 116, 115]) 449), (.str (cs [47, 99, 108, 97, 105, 109, 47, 99, 117, 116, 46, 112, 121]) 450), (.int (91) 0), (.int (3) 0), (.int (0) 0), (.int (0) 0), (.int (3) 0), (.ref 197), (.bool true), (.int (181) 0), (.ref 198), .none, (.ref 199), (.ref 200), (.ref 201), (.int (456) 0), (.int (91) 0), (.str (cs [47, 99, 108, 97, 105, 109, 47, 99, 117, 116, 46, 112, 121]) 457)]), #[]⟩
def k203 (p : Program) (P : Params) : Obj := ⟨(.type "function"), none, (.func (fnOf "_law_digits" "_law_digits" (defArgs (tpS p 25)) (defBody (tpS p 25)) (defScope (tpS p 25)) .none .none .none (.str (cs [108, 97, 119, 95, 102, 105, 118, 101, 102, 105, 101, 108, 100, 115, 95, 107, 50, 52, 95, 102, 105, 114, 115, 116, 95, 119, 114, 111, 110, 103, 95, 105, 116, 101, 109]) 429) none (.ref 202) .none)), #[]⟩
def k204 (p : Program) (P : Params) : Obj := ⟨(.type "tuple"), none, (.seq #[] 0), #[]⟩
def k206 (p : Program) (P : Params) : Obj := ⟨(.type "tuple"), none, (.seq #[(.str (cs [95, 108, 97, 119, 95, 102, 111, 117, 110, 100]) 462)] 0), #[]⟩
def k207 (p : Program) (P : Params) : Obj := ⟨(.type "tuple"), none, (.seq #[] 0), #[]⟩
def k209 (p : Program) (P : Params) : Obj := ⟨(.type "code"), none, (.fields #[(.str (cs [95, 108, 97, 119, 95, 119, 104, 111, 108, 101]) 459), (.str (cs [95, 108, 97, 119, 95, 119, 104, 111, 108, 101]) 460), (.str (cs [47, 99, 108, 97, 105, 109, 47, 99, 117, 116, 46, 112, 121]) 461), (.int (102) 0), (.int (1) 0), (.int (0) 0), (.int (0) 0), (.int (3) 0), (.ref 204), (.bool true), (.int (181) 0), (.ref 205), .none, (.ref 206), (.ref 207), (.ref 208), (.int (463) 0), (.int (102) 0), (.str (cs [47, 99, 108, 97, 105, 109, 47, 99, 117, 116, 46, 112, 121]) 464)]), #[]⟩
def k210 (p : Program) (P : Params) : Obj := ⟨(.type "function"), none, (.func (fnOf "_law_whole" "_law_whole" (defArgs (tpS p 26)) (defBody (tpS p 26)) (defScope (tpS p 26)) .none .none .none (.str (cs [108, 97, 119, 95, 102, 105, 118, 101, 102, 105, 101, 108, 100, 115, 95, 107, 50, 52, 95, 102, 105, 114, 115, 116, 95, 119, 114, 111, 110, 103, 95, 105, 116, 101, 109]) 429) none (.ref 209) .none)), #[]⟩
def k211 (p : Program) (P : Params) : Obj := ⟨(.type "tuple"), none, (.seq #[] 0), #[]⟩
def k213 (p : Program) (P : Params) : Obj := ⟨(.type "tuple"), none, (.seq #[(.str (cs [95, 108, 97, 119, 95, 119, 104, 105, 99, 104]) 469), (.str (cs [95, 108, 97, 119, 95, 111, 110, 101]) 470), (.str (cs [95, 108, 97, 119, 95, 111, 116, 104, 101, 114]) 471), (.str (cs [95, 108, 97, 119, 95, 115, 111, 109, 101]) 472)] 0), #[]⟩
def k214 (p : Program) (P : Params) : Obj := ⟨(.type "tuple"), none, (.seq #[] 0), #[]⟩
def k216 (p : Program) (P : Params) : Obj := ⟨(.type "code"), none, (.fields #[(.str (cs [95, 108, 97, 119, 95, 98, 111, 117, 110, 100, 115]) 466), (.str (cs [95, 108, 97, 119, 95, 98, 111, 117, 110, 100, 115]) 467), (.str (cs [47, 99, 108, 97, 105, 109, 47, 99, 117, 116, 46, 112, 121]) 468), (.int (104) 0), (.int (3) 0), (.int (0) 0), (.int (0) 0), (.int (3) 0), (.ref 211), (.bool true), (.int (181) 0), (.ref 212), .none, (.ref 213), (.ref 214), (.ref 215), (.int (473) 0), (.int (104) 0), (.str (cs [47, 99, 108, 97, 105, 109, 47, 99, 117, 116, 46, 112, 121]) 474)]), #[]⟩
def k217 (p : Program) (P : Params) : Obj := ⟨(.type "function"), none, (.func (fnOf "_law_bounds" "_law_bounds" (defArgs (tpS p 27)) (defBody (tpS p 27)) (defScope (tpS p 27)) .none .none .none (.str (cs [108, 97, 119, 95, 102, 105, 118, 101, 102, 105, 101, 108, 100, 115, 95, 107, 50, 52, 95, 102, 105, 114, 115, 116, 95, 119, 114, 111, 110, 103, 95, 105, 116, 101, 109]) 429) none (.ref 216) .none)), #[]⟩
def k218 (p : Program) (P : Params) : Obj := ⟨(.type "tuple"), none, (.seq #[] 0), #[]⟩
def k220 (p : Program) (P : Params) : Obj := ⟨(.type "tuple"), none, (.seq #[(.str (cs [95, 108, 97, 119, 95, 100, 105, 103, 105, 116, 115, 95, 104, 101, 114, 101]) 479), (.str (cs [95, 108, 97, 119, 95, 108, 111, 119]) 480), (.str (cs [95, 108, 97, 119, 95, 104, 105, 103, 104]) 481), (.str (cs [95, 108, 97, 119, 95, 102, 111, 114, 109]) 482), (.str (cs [95, 108, 97, 119, 95, 111, 110, 101]) 483), (.str (cs [95, 108, 97, 119, 95, 111, 116, 104, 101, 114]) 484), (.str (cs [95, 108, 97, 119, 95, 102, 97, 114]) 485), (.str (cs [95, 108, 97, 119, 95, 115, 116, 101, 112, 115]) 486), (.str (cs [95, 108, 97, 119, 95, 102, 105, 114, 115, 116]) 487), (.str (cs [95, 108, 97, 119, 95, 108, 97, 115, 116]) 488), (.str (cs [95, 108, 97, 119, 95, 115, 116, 101, 112]) 489)] 0), #[]⟩
def k221 (p : Program) (P : Params) : Obj := ⟨(.type "tuple"), none, (.seq #[] 0), #[]⟩
def k223 (p : Program) (P : Params) : Obj := ⟨(.type "code"), none, (.fields #[(.str (cs [95, 108, 97, 119, 95, 105, 116, 101, 109]) 476), (.str (cs [95, 108, 97, 119, 95, 105, 116, 101, 109]) 477), (.str (cs [47, 99, 108, 97, 105, 109, 47, 99, 117, 116, 46, 112, 121]) 478), (.int (109) 0), (.int (3) 0), (.int (0) 0), (.int (0) 0), (.int (3) 0), (.ref 218), (.bool true), (.int (181) 0), (.ref 219), .none, (.ref 220), (.ref 221), (.ref 222), (.int (490) 0), (.int (109) 0), (.str (cs [47, 99, 108, 97, 105, 109, 47, 99, 117, 116, 46, 112, 121]) 491)]), #[]⟩
def k224 (p : Program) (P : Params) : Obj := ⟨(.type "function"), none, (.func (fnOf "_law_item" "_law_item" (defArgs (tpS p 28)) (defBody (tpS p 28)) (defScope (tpS p 28)) .none .none .none (.str (cs [108, 97, 119, 95, 102, 105, 118, 101, 102, 105, 101, 108, 100, 115, 95, 107, 50, 52, 95, 102, 105, 114, 115, 116, 95, 119, 114, 111, 110, 103, 95, 105, 116, 101, 109]) 429) none (.ref 223) .none)), #[]⟩
def k237 (p : Program) (P : Params) : Obj := ⟨(.type "tuple"), none, (.seq #[] 0), #[]⟩
def k239 (p : Program) (P : Params) : Obj := ⟨(.type "tuple"), none, (.seq #[(.str (cs [95, 108, 97, 119, 95, 99, 101, 108, 108]) 511), (.str (cs [95, 108, 97, 119, 95, 108, 111, 119]) 512), (.str (cs [95, 108, 97, 119, 95, 104, 105, 103, 104]) 513), (.str (cs [95, 108, 97, 119, 95, 111, 110, 101]) 514), (.str (cs [95, 108, 97, 119, 95, 115, 111, 109, 101]) 515)] 0), #[]⟩
def k240 (p : Program) (P : Params) : Obj := ⟨(.type "tuple"), none, (.seq #[] 0), #[]⟩
def k242 (p : Program) (P : Params) : Obj := ⟨(.type "code"), none, (.fields #[(.str (cs [95, 108, 97, 119, 95, 119, 114, 111, 110, 103]) 508), (.str (cs [95, 108, 97, 119, 95, 119, 114, 111, 110, 103]) 509), (.str (cs [47, 99, 108, 97, 105, 109, 47, 99, 117, 116, 46, 112, 121]) 510), (.int (134) 0), (.int (3) 0), (.int (0) 0), (.int (0) 0), (.int (3) 0), (.ref 237), (.bool true), (.int (181) 0), (.ref 238), .none, (.ref 239), (.ref 240), (.ref 241), (.int (516) 0), (.int (134) 0), (.str (cs [47, 99, 108, 97, 105, 109, 47, 99, 117, 116, 46, 112, 121]) 517)]), #[]⟩
def k243 (p : Program) (P : Params) : Obj := ⟨(.type "function"), none, (.func (fnOf "_law_wrong" "_law_wrong" (defArgs (tpS p 31)) (defBody (tpS p 31)) (defScope (tpS p 31)) .none .none .none (.str (cs [108, 97, 119, 95, 102, 105, 118, 101, 102, 105, 101, 108, 100, 115, 95, 107, 50, 52, 95, 102, 105, 114, 115, 116, 95, 119, 114, 111, 110, 103, 95, 105, 116, 101, 109]) 429) none (.ref 242) .none)), #[]⟩
def k244 (p : Program) (P : Params) : Obj := ⟨(.type "tuple"), none, (.seq #[] 0), #[]⟩
def k246 (p : Program) (P : Params) : Obj := ⟨(.type "tuple"), none, (.seq #[(.str (cs [95, 108, 97, 119, 95, 116, 101, 120, 116]) 522), (.str (cs [95, 108, 97, 119, 95, 108, 111, 119]) 523), (.str (cs [95, 108, 97, 119, 95, 104, 105, 103, 104]) 524), (.str (cs [95, 108, 97, 119, 95, 97, 116]) 525), (.str (cs [101]) 526)] 0), #[]⟩
def k247 (p : Program) (P : Params) : Obj := ⟨(.type "tuple"), none, (.seq #[] 0), #[]⟩
def k249 (p : Program) (P : Params) : Obj := ⟨(.type "code"), none, (.fields #[(.str (cs [95, 108, 97, 119, 95, 114, 101, 102, 117, 115, 101, 100]) 519), (.str (cs [95, 108, 97, 119, 95, 114, 101, 102, 117, 115, 101, 100]) 520), (.str (cs [47, 99, 108, 97, 105, 109, 47, 99, 117, 116, 46, 112, 121]) 521), (.int (145) 0), (.int (4) 0), (.int (0) 0), (.int (0) 0), (.int (3) 0), (.ref 244), (.bool true), (.int (181) 0), (.ref 245), .none, (.ref 246), (.ref 247), (.ref 248), (.int (527) 0), (.int (145) 0), (.str (cs [47, 99, 108, 97, 105, 109, 47, 99, 117, 116, 46, 112, 121]) 528)]), #[]⟩
def k250 (p : Program) (P : Params) : Obj := ⟨(.type "function"), none, (.func (fnOf "_law_refused" "_law_refused" (defArgs (tpS p 32)) (defBody (tpS p 32)) (defScope (tpS p 32)) .none .none .none (.str (cs [108, 97, 119, 95, 102, 105, 118, 101, 102, 105, 101, 108, 100, 115, 95, 107, 50, 52, 95, 102, 105, 114, 115, 116, 95, 119, 114, 111, 110, 103, 95, 105, 116, 101, 109]) 429) none (.ref 249) .none)), #[]⟩
def k251 (p : Program) (P : Params) : Obj := ⟨(.type "tuple"), none, (.seq #[] 0), #[]⟩
def k253 (p : Program) (P : Params) : Obj := ⟨(.type "tuple"), none, (.seq #[(.str (cs [95, 108, 97, 119, 95, 115, 99, 114, 105, 112, 116]) 533), (.str (cs [95, 108, 97, 119, 95, 108, 111, 119]) 534), (.str (cs [95, 108, 97, 119, 95, 104, 105, 103, 104]) 535), (.str (cs [95, 108, 97, 119, 95, 109, 105, 120, 101, 100]) 536), (.str (cs [95, 108, 97, 119, 95, 116, 101, 120, 116, 115]) 537), (.str (cs [95, 108, 97, 119, 95, 107]) 538), (.str (cs [95, 108, 97, 119, 95, 105, 116, 101, 109, 95, 104, 101, 114, 101]) 539)] 0), #[]⟩
def k254 (p : Program) (P : Params) : Obj := ⟨(.type "tuple"), none, (.seq #[] 0), #[]⟩
def k256 (p : Program) (P : Params) : Obj := ⟨(.type "code"), none, (.fields #[(.str (cs [95, 108, 97, 119, 95, 114, 105, 103, 104, 116]) 530), (.str (cs [95, 108, 97, 119, 95, 114, 105, 103, 104, 116]) 531), (.str (cs [47, 99, 108, 97, 105, 109, 47, 99, 117, 116, 46, 112, 121]) 532), (.int (155) 0), (.int (4) 0), (.int (0) 0), (.int (0) 0), (.int (3) 0), (.ref 251), (.bool true), (.int (181) 0), (.ref 252), .none, (.ref 253), (.ref 254), (.ref 255), (.int (540) 0), (.int (155) 0), (.str (cs [47, 99, 108, 97, 105, 109, 47, 99, 117, 116, 46, 112, 121]) 541)]), #[]⟩
def k257 (p : Program) (P : Params) : Obj := ⟨(.type "function"), none, (.func (fnOf "_law_right" "_law_right" (defArgs (tpS p 33)) (defBody (tpS p 33)) (defScope (tpS p 33)) .none .none .none (.str (cs [108, 97, 119, 95, 102, 105, 118, 101, 102, 105, 101, 108, 100, 115, 95, 107, 50, 52, 95, 102, 105, 114, 115, 116, 95, 119, 114, 111, 110, 103, 95, 105, 116, 101, 109]) 429) none (.ref 256) .none)), #[]⟩
def k258 (p : Program) (P : Params) : Obj := ⟨(.type "tuple"), none, (.seq #[] 0), #[]⟩
def k260 (p : Program) (P : Params) : Obj := ⟨(.type "tuple"), none, (.seq #[(.str (cs [95, 108, 97, 119, 95, 100, 105, 103, 105, 116, 115, 95, 104, 101, 114, 101]) 546), (.str (cs [95, 108, 97, 119, 95, 116, 101, 120, 116, 115]) 547), (.str (cs [95, 108, 97, 119, 95, 108, 111, 119]) 548), (.str (cs [95, 108, 97, 119, 95, 104, 105, 103, 104]) 549), (.str (cs [95, 108, 97, 119, 95, 97, 116]) 550), (.str (cs [95, 108, 97, 119, 95, 111, 116, 104, 101, 114]) 551)] 0), #[]⟩
def k261 (p : Program) (P : Params) : Obj := ⟨(.type "tuple"), none, (.seq #[] 0), #[]⟩
def k263 (p : Program) (P : Params) : Obj := ⟨(.type "code"), none, (.fields #[(.str (cs [95, 108, 97, 119, 95, 115, 112, 111, 105, 108, 116]) 543), (.str (cs [95, 108, 97, 119, 95, 115, 112, 111, 105, 108, 116]) 544), (.str (cs [47, 99, 108, 97, 105, 109, 47, 99, 117, 116, 46, 112, 121]) 545), (.int (162) 0), (.int (4) 0), (.int (0) 0), (.int (0) 0), (.int (3) 0), (.ref 258), (.bool true), (.int (181) 0), (.ref 259), .none, (.ref 260), (.ref 261), (.ref 262), (.int (552) 0), (.int (162) 0), (.str (cs [47, 99, 108, 97, 105, 109, 47, 99, 117, 116, 46, 112, 121]) 553)]), #[]⟩
def k264 (p : Program) (P : Params) : Obj := ⟨(.type "function"), none, (.func (fnOf "_law_spoilt" "_law_spoilt" (defArgs (tpS p 34)) (defBody (tpS p 34)) (defScope (tpS p 34)) .none .none .none (.str (cs [108, 97, 119, 95, 102, 105, 118, 101, 102, 105, 101, 108, 100, 115, 95, 107, 50, 52, 95, 102, 105, 114, 115, 116, 95, 119, 114, 111, 110, 103, 95, 105, 116, 101, 109]) 429) none (.ref 263) .none)), #[]⟩
def k265 (p : Program) (P : Params) : Obj := ⟨(.type "tuple"), none, (.seq #[] 0), #[]⟩
def k268 (p : Program) (P : Params) : Obj := ⟨(.type "code"), none, (.fields #[(.str (cs [95, 108, 97, 119, 95, 109, 97, 110, 121]) 555), (.str (cs [95, 108, 97, 119, 95, 109, 97, 110, 121]) 556), (.str (cs [47, 99, 108, 97, 105, 109, 47, 99, 117, 116, 46, 112, 121]) 557), (.int (173) 0), (.int (3) 0), (.int (0) 0), (.int (0) 0), (.int (3) 0), (.ref 265), (.bool true), (.int (181) 0), (.ref 266), .none, .none, .none, (.ref 267), (.int (558) 0), (.int (173) 0), (.str (cs [47, 99, 108, 97, 105, 109, 47, 99, 117, 116, 46, 112, 121]) 559)]), #[]⟩
def k269 (p : Program) (P : Params) : Obj := ⟨(.type "function"), none, (.func (fnOf "_law_many" "_law_many" (defArgs (tpS p 35)) (defBody (tpS p 35)) (defScope (tpS p 35)) .none .none .none (.str (cs [108, 97, 119, 95, 102, 105, 118, 101, 102, 105, 101, 108, 100, 115, 95, 107, 50, 52, 95, 102, 105, 114, 115, 116, 95, 119, 114, 111, 110, 103, 95, 105, 116, 101, 109]) 429) none (.ref 268) .none)), #[]⟩
def k270 (p : Program) (P : Params) : Obj := ⟨(.type "tuple"), none, (.seq #[] 0), #[]⟩
def k272 (p : Program) (P : Params) : Obj := ⟨(.type "tuple"), none, (.seq #[(.str (cs [95, 108, 97, 119, 95, 115, 99, 114, 105, 112, 116]) 564), (.str (cs [95, 108, 97, 119, 95, 109, 105, 120, 101, 100]) 565), (.str (cs [95, 108, 97, 119, 95, 119, 104, 105, 99, 104]) 566), (.str (cs [95, 108, 97, 119, 95, 111, 110, 101]) 567), (.str (cs [95, 108, 97, 119, 95, 111, 116, 104, 101, 114]) 568), (.str (cs [95, 108, 97, 119, 95, 107, 105, 110, 100]) 569), (.str (cs [95, 108, 97, 119, 95, 108, 111, 119]) 570), (.str (cs [95, 108, 97, 119, 95, 104, 105, 103, 104]) 571), (.str (cs [95, 108, 97, 119, 95, 116, 101, 120, 116, 115]) 572), (.str (cs [95, 108, 97, 119, 95, 116, 104, 101, 114, 101]) 573), (.str (cs [95, 108, 97, 119, 95, 100, 105, 103, 105, 116, 115, 95, 104, 101, 114, 101]) 574), (.str (cs [95, 108, 97, 119, 95, 116, 101, 120, 116]) 575), (.str (cs [95, 108, 97, 119, 95, 97, 116]) 576), (.str (cs [95, 108, 97, 119, 95, 102, 111, 114, 116, 121]) 577), (.str (cs [95, 108, 97, 119, 95, 108, 111, 110, 103]) 578), (.str (cs [95, 108, 97, 119, 95, 109, 97, 110, 121, 95, 104, 101, 114, 101]) 579)] 0), #[]⟩
def k273 (p : Program) (P : Params) : Obj := ⟨(.type "tuple"), none, (.seq #[] 0), #[]⟩
def k275 (p : Program) (P : Params) : Obj := ⟨(.type "code"), none, (.fields #[(.str (cs [108, 97, 119]) 561), (.str (cs [108, 97, 119]) 562), (.str (cs [47, 99, 108, 97, 105, 109, 47, 99, 117, 116, 46, 112, 121]) 563), (.int (185) 0), (.int (1) 0), (.int (0) 0), (.int (0) 0), (.int (3) 0), (.ref 270), (.bool true), (.int (181) 0), (.ref 271), .none, (.ref 272), (.ref 273), (.ref 274), (.int (580) 0), (.int (185) 0), (.str (cs [47, 99, 108, 97, 105, 109, 47, 99, 117, 116, 46, 112, 121]) 581)]), #[]⟩
def k276 (p : Program) (P : Params) : Obj := ⟨(.type "function"), none, (.func (fnOf "law" "law" (defArgs (tpS p 36)) (defBody (tpS p 36)) (defScope (tpS p 36)) .none .none .none (.str (cs [108, 97, 119, 95, 102, 105, 118, 101, 102, 105, 101, 108, 100, 115, 95, 107, 50, 52, 95, 102, 105, 114, 115, 116, 95, 119, 114, 111, 110, 103, 95, 105, 116, 101, 109]) 429) none (.ref 275) .none)), #[]⟩
def Kt (p : Program) (P : Params) : Frag := (nat_lit 2, k2 p P) :: (nat_lit 3, k3 p P) :: (nat_lit 15, k15 p P) :: (nat_lit 22, k22 p P) :: (nat_lit 23, k23 p P) :: (nat_lit 24, k24 p P) :: (nat_lit 25, k25 p P) :: (nat_lit 28, k28 p P) :: (nat_lit 35, k35 p P) :: (nat_lit 36, k36 p P) :: (nat_lit 37, k37 p P) :: (nat_lit 40, k40 p P) :: (nat_lit 47, k47 p P) :: (nat_lit 48, k48 p P) :: (nat_lit 49, k49 p P) :: (nat_lit 52, k52 p P) :: (nat_lit 59, k59 p P) :: (nat_lit 61, k61 p P) :: (nat_lit 62, k62 p P) :: (nat_lit 64, k64 p P) :: (nat_lit 65, k65 p P) :: (nat_lit 66, k66 p P) :: (nat_lit 67, k67 p P) :: (nat_lit 68, k68 p P) :: (nat_lit 71, k71 p P) :: (nat_lit 78, k78 p P) :: (nat_lit 80, k80 p P) :: (nat_lit 81, k81 p P) :: (nat_lit 83, k83 p P) :: (nat_lit 84, k84 p P) :: (nat_lit 85, k85 p P) :: (nat_lit 86, k86 p P) :: (nat_lit 87, k87 p P) :: (nat_lit 90, k90 p P) :: (nat_lit 97, k97 p P) :: (nat_lit 98, k98 p P) :: (nat_lit 99, k99 p P) :: (nat_lit 102, k102 p P) :: (nat_lit 109, k109 p P) :: (nat_lit 110, k110 p P) :: (nat_lit 111, k111 p P) :: (nat_lit 114, k114 p P) :: (nat_lit 121, k121 p P) :: (nat_lit 123, k123 p P) :: (nat_lit 124, k124 p P) :: (nat_lit 126, k126 p P) :: (nat_lit 127, k127 p P) :: (nat_lit 128, k128 p P) :: (nat_lit 129, k129 p P) :: (nat_lit 130, k130 p P) :: (nat_lit 133, k133 p P) :: (nat_lit 140, k140 p P) :: (nat_lit 141, k141 p P) :: (nat_lit 142, k142 p P) :: (nat_lit 145, k145 p P) :: (nat_lit 147, k147 p P) :: (nat_lit 148, k148 p P) :: (nat_lit 150, k150 p P) :: (nat_lit 151, k151 p P) :: (nat_lit 152, k152 p P) :: (nat_lit 154, k154 p P) :: (nat_lit 155, k155 p P) :: (nat_lit 157, k157 p P) :: (nat_lit 158, k158 p P) :: (nat_lit 159, k159 p P) :: (nat_lit 162, k162 p P) :: (nat_lit 163, k163 p P) :: (nat_lit 164, k164 p P) :: (nat_lit 167, k167 p P) :: (nat_lit 168, k168 p P) :: (nat_lit 169, k169 p P) :: (nat_lit 171, k171 p P) :: (nat_lit 172, k172 p P) :: (nat_lit 174, k174 p P) :: (nat_lit 175, k175 p P) :: (nat_lit 176, k176 p P) :: (nat_lit 178, k178 p P) :: (nat_lit 179, k179 p P) :: (nat_lit 181, k181 p P) :: (nat_lit 182, k182 p P) :: (nat_lit 183, k183 p P) :: (nat_lit 185, k185 p P) :: (nat_lit 186, k186 p P) :: (nat_lit 188, k188 p P) :: (nat_lit 189, k189 p P) :: (nat_lit 190, k190 p P) :: (nat_lit 192, k192 p P) :: (nat_lit 193, k193 p P) :: (nat_lit 195, k195 p P) :: (nat_lit 196, k196 p P) :: (nat_lit 197, k197 p P) :: (nat_lit 199, k199 p P) :: (nat_lit 200, k200 p P) :: (nat_lit 202, k202 p P) :: (nat_lit 203, k203 p P) :: (nat_lit 204, k204 p P) :: (nat_lit 206, k206 p P) :: (nat_lit 207, k207 p P) :: (nat_lit 209, k209 p P) :: (nat_lit 210, k210 p P) :: (nat_lit 211, k211 p P) :: (nat_lit 213, k213 p P) :: (nat_lit 214, k214 p P) :: (nat_lit 216, k216 p P) :: (nat_lit 217, k217 p P) :: (nat_lit 218, k218 p P) :: (nat_lit 220, k220 p P) :: (nat_lit 221, k221 p P) :: (nat_lit 223, k223 p P) :: (nat_lit 224, k224 p P) :: (nat_lit 237, k237 p P) :: (nat_lit 239, k239 p P) :: (nat_lit 240, k240 p P) :: (nat_lit 242, k242 p P) :: (nat_lit 243, k243 p P) :: (nat_lit 244, k244 p P) :: (nat_lit 246, k246 p P) :: (nat_lit 247, k247 p P) :: (nat_lit 249, k249 p P) :: (nat_lit 250, k250 p P) :: (nat_lit 251, k251 p P) :: (nat_lit 253, k253 p P) :: (nat_lit 254, k254 p P) :: (nat_lit 256, k256 p P) :: (nat_lit 257, k257 p P) :: (nat_lit 258, k258 p P) :: (nat_lit 260, k260 p P) :: (nat_lit 261, k261 p P) :: (nat_lit 263, k263 p P) :: (nat_lit 264, k264 p P) :: (nat_lit 265, k265 p P) :: (nat_lit 268, k268 p P) :: (nat_lit 269, k269 p P) :: (nat_lit 270, k270 p P) :: (nat_lit 272, k272 p P) :: (nat_lit 273, k273 p P) :: (nat_lit 275, k275 p P) :: (nat_lit 276, k276 p P) :: []
def Kp (P : Params) : Frag := (nat_lit 2, k2 PySem.Challenge.pw_fivefields_k24_first_wrong_item P) :: (nat_lit 3, k3 PySem.Challenge.pw_fivefields_k24_first_wrong_item P) :: (nat_lit 15, k15 PySem.Challenge.pw_fivefields_k24_first_wrong_item P) :: (nat_lit 22, k22 PySem.Challenge.pw_fivefields_k24_first_wrong_item P) :: (nat_lit 23, k23 PySem.Challenge.pw_fivefields_k24_first_wrong_item P) :: (nat_lit 24, k24 PySem.Challenge.pw_fivefields_k24_first_wrong_item P) :: (nat_lit 25, k25 PySem.Challenge.pw_fivefields_k24_first_wrong_item P) :: (nat_lit 28, k28 PySem.Challenge.pw_fivefields_k24_first_wrong_item P) :: (nat_lit 35, k35 PySem.Challenge.pw_fivefields_k24_first_wrong_item P) :: (nat_lit 36, k36 PySem.Challenge.pw_fivefields_k24_first_wrong_item P) :: (nat_lit 37, k37 PySem.Challenge.pw_fivefields_k24_first_wrong_item P) :: (nat_lit 40, k40 PySem.Challenge.pw_fivefields_k24_first_wrong_item P) :: (nat_lit 47, k47 PySem.Challenge.pw_fivefields_k24_first_wrong_item P) :: (nat_lit 48, k48 PySem.Challenge.pw_fivefields_k24_first_wrong_item P) :: (nat_lit 49, k49 PySem.Challenge.pw_fivefields_k24_first_wrong_item P) :: (nat_lit 52, k52 PySem.Challenge.pw_fivefields_k24_first_wrong_item P) :: (nat_lit 59, k59 PySem.Challenge.pw_fivefields_k24_first_wrong_item P) :: (nat_lit 61, k61 PySem.Challenge.pw_fivefields_k24_first_wrong_item P) :: (nat_lit 62, k62 PySem.Challenge.pw_fivefields_k24_first_wrong_item P) :: (nat_lit 64, k64 PySem.Challenge.pw_fivefields_k24_first_wrong_item P) :: (nat_lit 65, k65 PySem.Challenge.pw_fivefields_k24_first_wrong_item P) :: (nat_lit 66, k66 PySem.Challenge.pw_fivefields_k24_first_wrong_item P) :: (nat_lit 67, k67 PySem.Challenge.pw_fivefields_k24_first_wrong_item P) :: (nat_lit 68, k68 PySem.Challenge.pw_fivefields_k24_first_wrong_item P) :: (nat_lit 71, k71 PySem.Challenge.pw_fivefields_k24_first_wrong_item P) :: (nat_lit 78, k78 PySem.Challenge.pw_fivefields_k24_first_wrong_item P) :: (nat_lit 80, k80 PySem.Challenge.pw_fivefields_k24_first_wrong_item P) :: (nat_lit 81, k81 PySem.Challenge.pw_fivefields_k24_first_wrong_item P) :: (nat_lit 83, k83 PySem.Challenge.pw_fivefields_k24_first_wrong_item P) :: (nat_lit 84, k84 PySem.Challenge.pw_fivefields_k24_first_wrong_item P) :: (nat_lit 85, k85 PySem.Challenge.pw_fivefields_k24_first_wrong_item P) :: (nat_lit 86, k86 PySem.Challenge.pw_fivefields_k24_first_wrong_item P) :: (nat_lit 87, k87 PySem.Challenge.pw_fivefields_k24_first_wrong_item P) :: (nat_lit 90, k90 PySem.Challenge.pw_fivefields_k24_first_wrong_item P) :: (nat_lit 97, k97 PySem.Challenge.pw_fivefields_k24_first_wrong_item P) :: (nat_lit 98, k98 PySem.Challenge.pw_fivefields_k24_first_wrong_item P) :: (nat_lit 99, k99 PySem.Challenge.pw_fivefields_k24_first_wrong_item P) :: (nat_lit 102, k102 PySem.Challenge.pw_fivefields_k24_first_wrong_item P) :: (nat_lit 109, k109 PySem.Challenge.pw_fivefields_k24_first_wrong_item P) :: (nat_lit 110, k110 PySem.Challenge.pw_fivefields_k24_first_wrong_item P) :: (nat_lit 111, k111 PySem.Challenge.pw_fivefields_k24_first_wrong_item P) :: (nat_lit 114, k114 PySem.Challenge.pw_fivefields_k24_first_wrong_item P) :: (nat_lit 121, k121 PySem.Challenge.pw_fivefields_k24_first_wrong_item P) :: (nat_lit 123, k123 PySem.Challenge.pw_fivefields_k24_first_wrong_item P) :: (nat_lit 124, k124 PySem.Challenge.pw_fivefields_k24_first_wrong_item P) :: (nat_lit 126, k126 PySem.Challenge.pw_fivefields_k24_first_wrong_item P) :: (nat_lit 127, k127 PySem.Challenge.pw_fivefields_k24_first_wrong_item P) :: (nat_lit 128, k128 PySem.Challenge.pw_fivefields_k24_first_wrong_item P) :: (nat_lit 129, k129 PySem.Challenge.pw_fivefields_k24_first_wrong_item P) :: (nat_lit 130, k130 PySem.Challenge.pw_fivefields_k24_first_wrong_item P) :: (nat_lit 133, k133 PySem.Challenge.pw_fivefields_k24_first_wrong_item P) :: (nat_lit 140, k140 PySem.Challenge.pw_fivefields_k24_first_wrong_item P) :: (nat_lit 141, k141 PySem.Challenge.pw_fivefields_k24_first_wrong_item P) :: (nat_lit 142, k142 PySem.Challenge.pw_fivefields_k24_first_wrong_item P) :: (nat_lit 145, k145 PySem.Challenge.pw_fivefields_k24_first_wrong_item P) :: (nat_lit 147, k147 PySem.Challenge.pw_fivefields_k24_first_wrong_item P) :: (nat_lit 148, k148 PySem.Challenge.pw_fivefields_k24_first_wrong_item P) :: (nat_lit 150, k150 PySem.Challenge.pw_fivefields_k24_first_wrong_item P) :: (nat_lit 151, k151 PySem.Challenge.pw_fivefields_k24_first_wrong_item P) :: (nat_lit 152, k152 PySem.Challenge.pw_fivefields_k24_first_wrong_item P) :: (nat_lit 154, k154 PySem.Challenge.pw_fivefields_k24_first_wrong_item P) :: (nat_lit 155, k155 PySem.Challenge.pw_fivefields_k24_first_wrong_item P) :: (nat_lit 157, k157 PySem.Challenge.pw_fivefields_k24_first_wrong_item P) :: (nat_lit 158, k158 PySem.Challenge.pw_fivefields_k24_first_wrong_item P) :: (nat_lit 159, k159 PySem.Challenge.pw_fivefields_k24_first_wrong_item P) :: (nat_lit 162, k162 PySem.Challenge.pw_fivefields_k24_first_wrong_item P) :: (nat_lit 163, k163 PySem.Challenge.pw_fivefields_k24_first_wrong_item P) :: (nat_lit 164, k164 PySem.Challenge.pw_fivefields_k24_first_wrong_item P) :: (nat_lit 167, k167 PySem.Challenge.pw_fivefields_k24_first_wrong_item P) :: (nat_lit 168, k168 PySem.Challenge.pw_fivefields_k24_first_wrong_item P) :: (nat_lit 169, k169 PySem.Challenge.pw_fivefields_k24_first_wrong_item P) :: (nat_lit 171, k171 PySem.Challenge.pw_fivefields_k24_first_wrong_item P) :: (nat_lit 172, k172 PySem.Challenge.pw_fivefields_k24_first_wrong_item P) :: (nat_lit 174, k174 PySem.Challenge.pw_fivefields_k24_first_wrong_item P) :: (nat_lit 175, k175 PySem.Challenge.pw_fivefields_k24_first_wrong_item P) :: (nat_lit 176, k176 PySem.Challenge.pw_fivefields_k24_first_wrong_item P) :: (nat_lit 178, k178 PySem.Challenge.pw_fivefields_k24_first_wrong_item P) :: (nat_lit 179, k179 PySem.Challenge.pw_fivefields_k24_first_wrong_item P) :: (nat_lit 181, k181 PySem.Challenge.pw_fivefields_k24_first_wrong_item P) :: (nat_lit 182, k182 PySem.Challenge.pw_fivefields_k24_first_wrong_item P) :: (nat_lit 183, k183 PySem.Challenge.pw_fivefields_k24_first_wrong_item P) :: (nat_lit 185, k185 PySem.Challenge.pw_fivefields_k24_first_wrong_item P) :: (nat_lit 186, k186 PySem.Challenge.pw_fivefields_k24_first_wrong_item P) :: (nat_lit 188, k188 PySem.Challenge.pw_fivefields_k24_first_wrong_item P) :: (nat_lit 189, k189 PySem.Challenge.pw_fivefields_k24_first_wrong_item P) :: (nat_lit 190, k190 PySem.Challenge.pw_fivefields_k24_first_wrong_item P) :: (nat_lit 192, k192 PySem.Challenge.pw_fivefields_k24_first_wrong_item P) :: (nat_lit 193, k193 PySem.Challenge.pw_fivefields_k24_first_wrong_item P) :: (nat_lit 195, k195 PySem.Challenge.pw_fivefields_k24_first_wrong_item P) :: (nat_lit 196, k196 PySem.Challenge.pw_fivefields_k24_first_wrong_item P) :: (nat_lit 197, k197 PySem.Challenge.pw_fivefields_k24_first_wrong_item P) :: (nat_lit 199, k199 PySem.Challenge.pw_fivefields_k24_first_wrong_item P) :: (nat_lit 200, k200 PySem.Challenge.pw_fivefields_k24_first_wrong_item P) :: (nat_lit 202, k202 PySem.Challenge.pw_fivefields_k24_first_wrong_item P) :: (nat_lit 203, k203 PySem.Challenge.pw_fivefields_k24_first_wrong_item P) :: (nat_lit 204, k204 PySem.Challenge.pw_fivefields_k24_first_wrong_item P) :: (nat_lit 206, k206 PySem.Challenge.pw_fivefields_k24_first_wrong_item P) :: (nat_lit 207, k207 PySem.Challenge.pw_fivefields_k24_first_wrong_item P) :: (nat_lit 209, k209 PySem.Challenge.pw_fivefields_k24_first_wrong_item P) :: (nat_lit 210, k210 PySem.Challenge.pw_fivefields_k24_first_wrong_item P) :: (nat_lit 211, k211 PySem.Challenge.pw_fivefields_k24_first_wrong_item P) :: (nat_lit 213, k213 PySem.Challenge.pw_fivefields_k24_first_wrong_item P) :: (nat_lit 214, k214 PySem.Challenge.pw_fivefields_k24_first_wrong_item P) :: (nat_lit 216, k216 PySem.Challenge.pw_fivefields_k24_first_wrong_item P) :: (nat_lit 217, k217 PySem.Challenge.pw_fivefields_k24_first_wrong_item P) :: (nat_lit 218, k218 PySem.Challenge.pw_fivefields_k24_first_wrong_item P) :: (nat_lit 220, k220 PySem.Challenge.pw_fivefields_k24_first_wrong_item P) :: (nat_lit 221, k221 PySem.Challenge.pw_fivefields_k24_first_wrong_item P) :: (nat_lit 223, k223 PySem.Challenge.pw_fivefields_k24_first_wrong_item P) :: (nat_lit 224, k224 PySem.Challenge.pw_fivefields_k24_first_wrong_item P) :: (nat_lit 237, k237 PySem.Challenge.pw_fivefields_k24_first_wrong_item P) :: (nat_lit 239, k239 PySem.Challenge.pw_fivefields_k24_first_wrong_item P) :: (nat_lit 240, k240 PySem.Challenge.pw_fivefields_k24_first_wrong_item P) :: (nat_lit 242, k242 PySem.Challenge.pw_fivefields_k24_first_wrong_item P) :: (nat_lit 243, k243 PySem.Challenge.pw_fivefields_k24_first_wrong_item P) :: (nat_lit 244, k244 PySem.Challenge.pw_fivefields_k24_first_wrong_item P) :: (nat_lit 246, k246 PySem.Challenge.pw_fivefields_k24_first_wrong_item P) :: (nat_lit 247, k247 PySem.Challenge.pw_fivefields_k24_first_wrong_item P) :: (nat_lit 249, k249 PySem.Challenge.pw_fivefields_k24_first_wrong_item P) :: (nat_lit 250, k250 PySem.Challenge.pw_fivefields_k24_first_wrong_item P) :: (nat_lit 251, k251 PySem.Challenge.pw_fivefields_k24_first_wrong_item P) :: (nat_lit 253, k253 PySem.Challenge.pw_fivefields_k24_first_wrong_item P) :: (nat_lit 254, k254 PySem.Challenge.pw_fivefields_k24_first_wrong_item P) :: (nat_lit 256, k256 PySem.Challenge.pw_fivefields_k24_first_wrong_item P) :: (nat_lit 257, k257 PySem.Challenge.pw_fivefields_k24_first_wrong_item P) :: (nat_lit 258, k258 PySem.Challenge.pw_fivefields_k24_first_wrong_item P) :: (nat_lit 260, k260 PySem.Challenge.pw_fivefields_k24_first_wrong_item P) :: (nat_lit 261, k261 PySem.Challenge.pw_fivefields_k24_first_wrong_item P) :: (nat_lit 263, k263 PySem.Challenge.pw_fivefields_k24_first_wrong_item P) :: (nat_lit 264, k264 PySem.Challenge.pw_fivefields_k24_first_wrong_item P) :: (nat_lit 265, k265 PySem.Challenge.pw_fivefields_k24_first_wrong_item P) :: (nat_lit 268, k268 PySem.Challenge.pw_fivefields_k24_first_wrong_item P) :: (nat_lit 269, k269 PySem.Challenge.pw_fivefields_k24_first_wrong_item P) :: (nat_lit 270, k270 PySem.Challenge.pw_fivefields_k24_first_wrong_item P) :: (nat_lit 272, k272 PySem.Challenge.pw_fivefields_k24_first_wrong_item P) :: (nat_lit 273, k273 PySem.Challenge.pw_fivefields_k24_first_wrong_item P) :: (nat_lit 275, k275 PySem.Challenge.pw_fivefields_k24_first_wrong_item P) :: (nat_lit 276, k276 PySem.Challenge.pw_fivefields_k24_first_wrong_item P) :: []
def ka : List Addr := [2, 3, 15, 22, 23, 24, 25, 28, 35, 36, 37, 40, 47, 48, 49, 52, 59, 61, 62, 64, 65, 66, 67, 68, 71, 78, 80, 81, 83, 84, 85, 86, 87, 90, 97, 98, 99, 102, 109, 110, 111, 114, 121, 123, 124, 126, 127, 128, 129, 130, 133, 140, 141, 142, 145, 147, 148, 150, 151, 152, 154, 155, 157, 158, 159, 162, 163, 164, 167, 168, 169, 171, 172, 174, 175, 176, 178, 179, 181, 182, 183, 185, 186, 188, 189, 190, 192, 193, 195, 196, 197, 199, 200, 202, 203, 204, 206, 207, 209, 210, 211, 213, 214, 216, 217, 218, 220, 221, 223, 224, 237, 239, 240, 242, 243, 244, 246, 247, 249, 250, 251, 253, 254, 256, 257, 258, 260, 261, 263, 264, 265, 268, 269, 270, 272, 273, 275, 276]
def qOf (p : Program) : Program := { p with main := { p.main with body := [tpS p 36] } }
def lo : List Str := [cs [95, 95, 110, 97, 109, 101, 95, 95], cs [70, 105, 101, 108, 100, 69, 114, 114, 111, 114], cs [78, 111, 68, 97, 121], cs [78, 111, 77, 111, 109, 101, 110, 116], cs [78, 111, 70, 105, 101, 108, 100], cs [78, 111, 82, 111, 119], cs [78, 111, 66, 111, 111, 107], cs [78, 111, 67, 108, 111, 99, 107], cs [78, 111, 78, 97, 109, 101], cs [78, 111, 87, 111, 114, 100], cs [70, 73, 71, 85, 82, 69, 83], cs [111, 110, 108, 121, 95, 102, 105, 103, 117, 114, 101, 115], cs [77, 79, 83, 84, 95, 83, 73, 71, 78, 83], cs [77, 79, 83, 84, 95, 73, 84, 69, 77, 83], cs [77, 79, 83, 84, 95, 83, 84, 82, 73, 68, 69], cs [109, 97, 115, 107, 95, 111, 102], cs [110, 117, 109, 98, 101, 114, 95, 105, 110], cs [115, 112, 97, 110, 95, 105, 110], cs [105, 116, 101, 109, 95, 109, 97, 115, 107], cs [114, 101, 97, 100, 95, 102, 105, 101, 108, 100], cs [95, 108, 97, 119, 95, 99, 101, 108, 108, 95, 97, 116], cs [95, 108, 97, 119, 95, 115, 116, 105, 114], cs [95, 108, 97, 119, 95, 100, 105, 103, 105, 116, 115], cs [95, 108, 97, 119, 95, 119, 104, 111, 108, 101], cs [95, 108, 97, 119, 95, 98, 111, 117, 110, 100, 115], cs [95, 108, 97, 119, 95, 105, 116, 101, 109], cs [95, 108, 97, 119, 95, 116, 111, 108, 100], cs [95, 108, 97, 119, 95, 109, 97, 115, 107], cs [95, 108, 97, 119, 95, 119, 114, 111, 110, 103], cs [95, 108, 97, 119, 95, 114, 101, 102, 117, 115, 101, 100], cs [95, 108, 97, 119, 95, 114, 105, 103, 104, 116], cs [95, 108, 97, 119, 95, 115, 112, 111, 105, 108, 116], cs [95, 108, 97, 119, 95, 109, 97, 110, 121]]
def dLaw : DefRec := ⟨"law", defArgs (tpS PySem.Challenge.pw_fivefields_k24_first_wrong_item 36), defBody (tpS PySem.Challenge.pw_fivefields_k24_first_wrong_item 36), defScope (tpS PySem.Challenge.pw_fivefields_k24_first_wrong_item 36), ⟨185, 0, 212, 78⟩⟩
end W24H
open PySem PySem.W PyProof.Rows
set_option maxHeartbeats 0 in
theorem W24H.pre (h : PySem.Challenge.rw_fivefields_k24_first_wrong_item.row.wellSaid = true → PySem.Challenge.rw_fivefields_k24_first_wrong_item.row.Holds) : PySem.Challenge.rw_fivefields_k24_first_wrong_item.Holds := by
  w_on; o_law; rename_i said; exact h said
set_option maxHeartbeats 0 in
theorem W24H.run : ∀ w, HeadRun.RunEq PySem.Challenge.rw_fivefields_k24_first_wrong_item.row (W24H.qOf PySem.Challenge.pw_fivefields_k24_first_wrong_item) (kHook W24H.Kp W24H.ka (fun _ => by kernel_rfl)) (fun s => W24H.ka.map (HeadRun.getT s)) 5520 W24H.lo w := by
  have te : PySem.Challenge.pw_fivefields_k24_first_wrong_item = PySem.W.Fast.tw10562892655990409163 := PySem.W.Fast.te10562892655990409163
  intro w os
  show (HeadRun.endF (HeadRun.stepQ (HeadRun.denQ HeadRun.tabQ) PySem.Challenge.pw_fivefields_k24_first_wrong_item w) _ PySem.Challenge.pw_fivefields_k24_first_wrong_item w os).map (fun s => (HeadRun.looksF PySem.Challenge.pw_fivefields_k24_first_wrong_item (boot_heap w.params) s.abs, HeadRun.seenQ (W24H.qOf PySem.Challenge.pw_fivefields_k24_first_wrong_item) W24H.lo (importedModules (PySem.Challenge.pw_fivefields_k24_first_wrong_item).main.body) (fun s => xlAt (W24H.qOf PySem.Challenge.pw_fivefields_k24_first_wrong_item) [] s && recOk [] s) s.abs, W24H.ka.map (HeadRun.getT s))) = some (true, openGood (W24H.qOf PySem.Challenge.pw_fivefields_k24_first_wrong_item) W24H.lo, (W24H.Kt PySem.Challenge.pw_fivefields_k24_first_wrong_item w.params).map fun x => some x.2)
  rw [te]
  kernel_rfl
set_option maxHeartbeats 0 in
theorem W24H.head (said : PySem.Challenge.rw_fivefields_k24_first_wrong_item.row.wellSaid = true) (call : WalkO (W24H.qOf PySem.Challenge.pw_fivefields_k24_first_wrong_item) W24H.lo (XL (W24H.qOf PySem.Challenge.pw_fivefields_k24_first_wrong_item) []) (kHook W24H.Kp W24H.ka (fun _ => by kernel_rfl)).says PySem.Challenge.rw_fivefields_k24_first_wrong_item.row.toRowW W24H.dLaw [] fun f vs => PySem.call f vs) : PySem.Challenge.rw_fivefields_k24_first_wrong_item.row.Holds := by
  refine HeadRun.head_any (r := PySem.Challenge.rw_fivefields_k24_first_wrong_item.row) (q := W24H.qOf PySem.Challenge.pw_fivefields_k24_first_wrong_item) (H := kHook W24H.Kp W24H.ka (fun _ => by kernel_rfl)) (ob := fun s => W24H.ka.map (HeadRun.getT s)) (M := 5520) (loose := W24H.lo) (d := W24H.dLaw) (kwd := []) (fun s => List.map_congr_left fun a _ => HeadRun.getT_eq s a) ?e ?f W24H.run ?hdef ?hp ?hk ?hwr said ?ok ?hb ?hw call
  case e => kernel_rfl
  case f => exact fun s => by kernel_rfl
  case hdef => kernel_rfl
  case hp => kernel_rfl
  case hk => kernel_rfl
  case hwr => kernel_rfl
  case ok => kernel_rfl
  case hb => exact ⟨rfl, rfl, rfl, rfl, rfl, by kernel_rfl⟩
  case hw => w_witness2
end
namespace PL
open PySem PySem.Spec L2
open Evl (Ex)

/-! ### data: what a value is, told without addresses -/
inductive D where
  | v (x : V)
  | tup (l : List D)
  | lst (l : List D)
  | obj (C : Addr) (ns : List Str) (l : List D)
  | dct (ks : List Key) (l : List D)
  /-- d, and just this value -/
  | pin (u : V) (d : D)

abbrev D.int (i : Int) : D := .v (.int i)
abbrev D.bl (b : Bool) : D := .v (.bl b)
abbrev D.str (s : Str) : D := .v (.str s)
abbrev D.non : D := .v .non

mutual
def Rp (K : PySem.W.Frag) (H : Hp) : D → V → Prop
  | .v x, u => u = x
  | .tup l, u => ∃ a xs, u = .ref a ∧ SqT K H a xs ∧ RpL K H l xs
  | .lst l, u => ∃ a xs, u = .ref a ∧ SqL K H a xs ∧ RpL K H l xs
  | .obj C ns l, u => ∃ a dx xs, u = .ref a ∧ H a = some (.ins C dx (ns.zip xs)) ∧ ns.length = xs.length ∧ RpL K H l xs
  | .dct ks l, u => ∃ a xs, u = .ref a ∧ H a = some (.dK (ks.zip xs)) ∧ ks.length = xs.length ∧ RpL K H l xs
  | .pin x d, u => u = x ∧ Rp K H d u
def RpL (K : PySem.W.Frag) (H : Hp) : List D → List V → Prop
  | [], xs => xs = []
  | d :: l, xs => ∃ x r, xs = x :: r ∧ Rp K H d x ∧ RpL K H l r
end

section
variable {K : PySem.W.Frag} {H H' : Hp}
mutual
theorem rp_mono (e : Ex H H') : ∀ {d : D} {u : V}, Rp K H d u → Rp K H' d u
  | .v x, u, h => by
    unfold Rp at h ⊢
    exact h
  | .tup l, u, h => by
    unfold Rp at h ⊢
    obtain ⟨a, xs, h1, h2, h3⟩ := h
    exact ⟨a, xs, h1, Evl.ex_t e h2, rpL_mono e h3⟩
  | .lst l, u, h => by
    unfold Rp at h ⊢
    obtain ⟨a, xs, h1, h2, h3⟩ := h
    exact ⟨a, xs, h1, Evl.ex_l e h2, rpL_mono e h3⟩
  | .obj C ns l, u, h => by
    unfold Rp at h ⊢
    obtain ⟨a, dx, xs, h1, h2, h3, h4⟩ := h
    exact ⟨a, dx, xs, h1, e _ _ h2, h3, rpL_mono e h4⟩
  | .dct ks l, u, h => by
    unfold Rp at h ⊢
    obtain ⟨a, xs, h1, h2, h3, h4⟩ := h
    exact ⟨a, xs, h1, e _ _ h2, h3, rpL_mono e h4⟩
  | .pin x d, u, h => by
    unfold Rp at h ⊢
    exact ⟨h.1, rp_mono e h.2⟩
theorem rpL_mono (e : Ex H H') : ∀ {l : List D} {xs : List V}, RpL K H l xs → RpL K H' l xs
  | [], xs, h => by
    unfold RpL at h ⊢
    exact h
  | d :: l, xs, h => by
    unfold RpL at h ⊢
    obtain ⟨x, r, h1, h2, h3⟩ := h
    exact ⟨x, r, h1, rp_mono e h2, rpL_mono e h3⟩
end

theorem rp_v {x u : V} (h : Rp K H (.v x) u) : u = x := by
  unfold Rp at h
  exact h
theorem rp_v' {x : V} : Rp K H (.v x) x := by
  unfold Rp
  rfl
theorem rpL_nil : RpL K H [] [] := by
  unfold RpL
  rfl
theorem rpL_cons {d : D} {l : List D} {x : V} {r : List V} (h : Rp K H d x) (t : RpL K H l r) : RpL K H (d :: l) (x :: r) := by
  unfold RpL
  exact ⟨x, r, rfl, h, t⟩
theorem rpL_nil_inv {xs : List V} (h : RpL K H [] xs) : xs = [] := by
  unfold RpL at h
  exact h
theorem rpL_cons_inv {d : D} {l : List D} {xs : List V} (h : RpL K H (d :: l) xs) : ∃ x r, xs = x :: r ∧ Rp K H d x ∧ RpL K H l r := by
  unfold RpL at h
  exact h
theorem rpL_len : ∀ {l : List D} {xs : List V}, RpL K H l xs → xs.length = l.length
  | [], xs, h => by
    rw [rpL_nil_inv h]
    rfl
  | d :: l, xs, h => by
    obtain ⟨x, r, rfl, _, h3⟩ := rpL_cons_inv h
    rw [List.length_cons, List.length_cons, rpL_len h3]
theorem rpL_get : ∀ {l : List D} {xs : List V} {i : Nat} {d : D}, RpL K H l xs → l[i]? = some d → ∃ x, xs[i]? = some x ∧ Rp K H d x
  | [], xs, i, d, h, e => by simp at e
  | d' :: l, xs, 0, d, h, e => by
    obtain ⟨x, r, rfl, h2, _⟩ := rpL_cons_inv h
    simp at e
    subst e
    exact ⟨x, rfl, h2⟩
  | d' :: l, xs, i + 1, d, h, e => by
    obtain ⟨x, r, rfl, _, h3⟩ := rpL_cons_inv h
    obtain ⟨y, e1, h4⟩ := rpL_get (i := i) h3 (by simpa using e)
    exact ⟨y, by simpa using e1, h4⟩
theorem rpL_get' : ∀ {l : List D} {xs : List V} {i : Nat} {x : V}, RpL K H l xs → xs[i]? = some x → ∃ d, l[i]? = some d ∧ Rp K H d x
  | [], xs, i, d, h, e => by
    rw [rpL_nil_inv h] at e
    simp at e
  | d' :: l, xs, 0, d, h, e => by
    obtain ⟨x, r, rfl, h2, _⟩ := rpL_cons_inv h
    simp at e
    subst e
    exact ⟨d', rfl, h2⟩
  | d' :: l, xs, i + 1, d, h, e => by
    obtain ⟨x, r, rfl, _, h3⟩ := rpL_cons_inv h
    obtain ⟨y, e1, h4⟩ := rpL_get' (i := i) h3 (by simpa using e)
    exact ⟨y, by simpa using e1, h4⟩
theorem rpL_app : ∀ {l m : List D} {xs ys : List V}, RpL K H l xs → RpL K H m ys → RpL K H (l ++ m) (xs ++ ys)
  | [], m, xs, ys, h, h' => by
    rw [rpL_nil_inv h]
    exact h'
  | d :: l, m, xs, ys, h, h' => by
    obtain ⟨x, r, rfl, h2, h3⟩ := rpL_cons_inv h
    exact rpL_cons h2 (rpL_app h3 h')
theorem rpL_set : ∀ {l : List D} {xs : List V} {d : D} {x : V} (i : Nat), RpL K H l xs → Rp K H d x → RpL K H (l.set i d) (xs.set i x)
  | [], xs, d, x, i, h, h' => by
    rw [rpL_nil_inv h]
    exact rpL_nil
  | d' :: l, xs, d, x, 0, h, h' => by
    obtain ⟨y, r, rfl, h2, h3⟩ := rpL_cons_inv h
    exact rpL_cons h' h3
  | d' :: l, xs, d, x, i + 1, h, h' => by
    obtain ⟨y, r, rfl, h2, h3⟩ := rpL_cons_inv h
    exact rpL_cons h2 (rpL_set i h3 h')
theorem rpL_drop : ∀ {l : List D} {xs : List V} (i : Nat), RpL K H l xs → RpL K H (l.drop i) (xs.drop i)
  | l, xs, 0, h => h
  | [], xs, i + 1, h => by
    rw [rpL_nil_inv h]
    exact rpL_nil
  | d' :: l, xs, i + 1, h => by
    obtain ⟨y, r, rfl, h2, h3⟩ := rpL_cons_inv h
    exact rpL_drop i h3
theorem rpL_take : ∀ {l : List D} {xs : List V} (i : Nat), RpL K H l xs → RpL K H (l.take i) (xs.take i)
  | l, xs, 0, h => rpL_nil
  | [], xs, i + 1, h => by
    rw [rpL_nil_inv h]
    exact rpL_nil
  | d' :: l, xs, i + 1, h => by
    obtain ⟨y, r, rfl, h2, h3⟩ := rpL_cons_inv h
    exact rpL_cons h2 (rpL_take i h3)
theorem rpL_vs : ∀ {vs xs : List V}, RpL K H (vs.map D.v) xs → xs = vs
  | [], xs, h => rpL_nil_inv h
  | v :: vs, xs, h => by
    obtain ⟨x, r, rfl, h2, h3⟩ := rpL_cons_inv h
    rw [rp_v h2, rpL_vs h3]
theorem rpL_vs' : ∀ {vs : List V}, RpL K H (vs.map D.v) vs
  | [] => rpL_nil
  | v :: vs => rpL_cons rp_v' rpL_vs'
end

/-! ### the frame: what stands in a slot -/
/-- an exception's own fields -/
def ExAt (K : PySem.W.Frag) (Hv : Hp) (ns : List Str) (ds : List D) (od : Option Addr) : Prop := (ns = [] ∧ ds = [] ∧ od = none) ∨ ∃ dd xs, od = some dd ∧ Hv dd = some (.xd (ns.zip xs)) ∧ ns.length = xs.length ∧ RpL K Hv ds xs
theorem ExAt.mono {K : PySem.W.Frag} {H H' : Hp} {ns : List Str} {ds : List D} {od : Option Addr} (e : Ex H H') (h : ExAt K H ns ds od) : ExAt K H' ns ds od := by
  rcases h with h | ⟨dd, xs, h1, h2, h3, h4⟩
  · exact .inl h
  · exact .inr ⟨dd, xs, h1, e _ _ h2, h3, rpL_mono e h4⟩
inductive E where
  | no
  | val (d : D)
  /-- an exception that was caught: its address, its fields -/
  | exc (a : Addr) (od : Option Addr) (ns : List Str) (ds : List D)
  /-- an instance that is being made, at p: its fields so far -/
  | slf (p C : Addr) (ns : List Str) (l : List D)
  /-- a list of this def's own: nothing else names it -/
  | own (l : List D)

/-- the view (data that stay) and the heap go on -/
structure Vx (Hv H Hv' H' : Hp) : Prop where
  vv : Ex Hv Hv'
  hh : Ex H H'
  vh : Ex Hv' H'
  fr : ∀ a o, Hv' a = some o → Hv a = some o ∨ H a = none

theorem Vx.refl {Hv H : Hp} (h : Ex Hv H) : Vx Hv H Hv H := ⟨Ex.refl _, Ex.refl _, h, fun _ _ e => .inl e⟩
theorem Vx.trans {A B A1 B1 A2 B2 : Hp} (x : Vx A B A1 B1) (y : Vx A1 B1 A2 B2) : Vx A B A2 B2 :=
  ⟨x.vv.trans y.vv, x.hh.trans y.hh, y.vh, fun a o e => by
    rcases y.fr a o e with h | h
    · exact x.fr a o h
    · exact .inr (Evl.fresh_back x.hh h)⟩

def At (K : PySem.W.Frag) (Bs Hv H : Hp) (e : E) (o : Option V) : Prop := match e with
  | .no => True
  | .val d => ∃ v, o = some v ∧ Rp K Hv d v
  | .exc a od ns ds => o = some (.ref a) ∧ ExAt K Hv ns ds od
  | .slf p C ns l => o = some (.ref p) ∧ Bs p = none ∧ Hv p = none ∧ ∃ dx xs, H p = some (.ins C dx (ns.zip xs)) ∧ ns.length = xs.length ∧ RpL K Hv l xs
  | .own l => ∃ p xs, o = some (.ref p) ∧ Bs p = none ∧ Hv p = none ∧ H p = some (.lst xs) ∧ RpL K Hv l xs

def isOwn : E → Bool
  | .own _ => true
  | _ => false

structure Sg (K : PySem.W.Frag) (Bv Bs Hv H : Hp) (ρ : List E) (σ : St) : Prop where
  vx : Vx Bv Bs Hv H
  len : σ.length = ρ.length
  at_ : ∀ (i : Nat) (e : E), ρ[i]? = some e → ∃ o, σ[i]? = some o ∧ At K Bs Hv H e o
  sep : ∀ (i j : Nat) (l l' : List D) (p : Addr), ρ[i]? = some (.own l) → ρ[j]? = some (.own l') → σ[i]? = some (some (V.ref p)) → σ[j]? = some (some (V.ref p)) → i = j

section
variable {K : PySem.W.Frag} {Bv Bs Hv H Hv' H' : Hp} {ρ ρ' : List E} {σ : St}

theorem Sg.val (g : Sg K Bv Bs Hv H ρ σ) {i : Nat} {d : D} (h : ρ[i]? = some (.val d)) : ∃ v, σ[i]? = some (some v) ∧ Rp K Hv d v := by
  obtain ⟨o, h1, v, h2, h3⟩ := g.at_ i _ h
  subst h2
  exact ⟨v, h1, h3⟩
theorem Sg.own (g : Sg K Bv Bs Hv H ρ σ) {i : Nat} {l : List D} (h : ρ[i]? = some (.own l)) : ∃ p xs, σ[i]? = some (some (.ref p)) ∧ Bs p = none ∧ Hv p = none ∧ H p = some (.lst xs) ∧ RpL K Hv l xs := by
  obtain ⟨o, h1, p, xs, h2, h3⟩ := g.at_ i _ h
  subst h2
  exact ⟨p, xs, h1, h3⟩
/-- the heap goes on, no own list is touched -/
theorem Sg.go (g : Sg K Bv Bs Hv H ρ σ) (x : Vx Hv H Hv' H') : Sg K Bv Bs Hv' H' ρ σ := by
  refine ⟨g.vx.trans x, g.len, fun i e h => ?_, g.sep⟩
  obtain ⟨o, h1, h2⟩ := g.at_ i e h
  refine ⟨o, h1, ?_⟩
  cases e with
  | no => exact trivial
  | val d =>
    obtain ⟨v, e1, e2⟩ := h2
    exact ⟨v, e1, rp_mono x.vv e2⟩
  | exc a od ns ds => exact ⟨h2.1, h2.2.mono x.vv⟩
  | slf p C ns l =>
    obtain ⟨e1, e2, e3, dx, xs, e4, e5, e6⟩ := h2
    refine ⟨e1, e2, ?_, dx, xs, x.hh _ _ e4, e5, rpL_mono x.vv e6⟩
    cases q : Hv' p with
    | none => rfl
    | some o =>
      rcases x.fr p o q with h | h
      · rw [e3] at h; cases h
      · rw [e4] at h; cases h
  | own l =>
    obtain ⟨p, xs, e1, e2, e3, e4, e5⟩ := h2
    refine ⟨p, xs, e1, e2, ?_, x.hh _ _ e4, rpL_mono x.vv e5⟩
    cases q : Hv' p with
    | none => rfl
    | some o =>
      rcases x.fr p o q with h | h
      · rw [e3] at h; cases h
      · rw [e4] at h; cases h
/-- forget -/
inductive Wk : E → E → Prop where
  | same (e : E) : Wk e e
  | no (e : E) : Wk e .no
/-- slot by slot -/
inductive WkL : List E → List E → Prop where
  | nil : WkL [] []
  | cons {e e' : E} {r r' : List E} : Wk e e' → WkL r r' → WkL (e :: r) (e' :: r')
theorem WkL.refl : ∀ (ρ : List E), WkL ρ ρ
  | [] => .nil
  | e :: r => .cons (.same e) (WkL.refl r)
theorem WkL.len : ∀ {ρ ρ' : List E}, WkL ρ ρ' → ρ'.length = ρ.length
  | _, _, .nil => rfl
  | _, _, .cons _ t => by rw [List.length_cons, List.length_cons, t.len]
theorem WkL.get : ∀ {ρ ρ' : List E} {i : Nat} {e' : E}, WkL ρ ρ' → ρ'[i]? = some e' → ∃ e, ρ[i]? = some e ∧ Wk e e'
  | _, _, i, e', .nil, h => by simp at h
  | _, _, 0, e', .cons a t, h => by
    simp at h
    subst h
    exact ⟨_, rfl, a⟩
  | _, _, i + 1, e', .cons a t, h => by
    obtain ⟨e, h1, h2⟩ := t.get (i := i) (by simpa using h)
    exact ⟨e, by simpa using h1, h2⟩
theorem Wk.own {e : E} {l : List D} (h : Wk e (.own l)) : e = .own l := by
  cases h
  rfl
theorem Sg.wk (g : Sg K Bv Bs Hv H ρ σ) (w : WkL ρ ρ') : Sg K Bv Bs Hv H ρ' σ := by
  refine ⟨g.vx, g.len.trans w.len.symm, fun i e h => ?_, fun i j l l' p h1 h2 h3 h4 => ?_⟩
  · obtain ⟨e0, h0, h1⟩ := w.get h
    obtain ⟨o, h2, h3⟩ := g.at_ i e0 h0
    refine ⟨o, h2, ?_⟩
    cases h1 with
    | same => exact h3
    | no => exact trivial
  · obtain ⟨e1, g1, w1⟩ := w.get h1
    obtain ⟨e2, g2, w2⟩ := w.get h2
    exact g.sep i j l l' p (w1.own ▸ g1) (w2.own ▸ g2) h3 h4
/-- a slot gets data -/
theorem Sg.set (g : Sg K Bv Bs Hv H ρ σ) {i : Nat} {d : D} {v : V} (h : Rp K Hv d v) : Sg K Bv Bs Hv H (ρ.set i (.val d)) (σ.set i (some v)) := by
  refine ⟨g.vx, by rw [List.length_set, List.length_set, g.len], fun j e hj => ?_, fun j k l l' p h1 h2 h3 h4 => ?_⟩
  · by_cases hij : i = j
    · subst hij
      have hl : i < ρ.length := by
        have := (List.getElem?_eq_some_iff.mp hj).1
        rwa [List.length_set] at this
      rw [List.getElem?_set_self hl] at hj
      cases hj
      refine ⟨some v, List.getElem?_set_self (by rw [g.len]; exact hl), v, rfl, h⟩
    · rw [List.getElem?_set_ne hij] at hj
      rw [List.getElem?_set_ne hij]
      exact g.at_ j e hj
  · have n1 : i ≠ j := fun z => by
      subst z
      have hl : i < ρ.length := by
        have := (List.getElem?_eq_some_iff.mp h1).1
        rwa [List.length_set] at this
      rw [List.getElem?_set_self hl] at h1
      cases h1
    have n2 : i ≠ k := fun z => by
      subst z
      have hl : i < ρ.length := by
        have := (List.getElem?_eq_some_iff.mp h2).1
        rwa [List.length_set] at this
      rw [List.getElem?_set_self hl] at h2
      cases h2
    rw [List.getElem?_set_ne n1] at h1 h3
    rw [List.getElem?_set_ne n2] at h2 h4
    exact g.sep j k l l' p h1 h2 h3 h4
/-- an address that no own slot holds -/
def NotOwn (ρ : List E) (σ : St) (p : Addr) : Prop := ∀ (i : Nat) (l : List D), ρ[i]? = some (.own l) → σ[i]? ≠ some (some (V.ref p))
theorem Sg.notOwn_new (g : Sg K Bv Bs Hv H ρ σ) {p : Addr} (h : H p = none) : NotOwn ρ σ p := fun i l h1 h2 => by
  obtain ⟨q, xs, e1, _, _, e4, _⟩ := g.own h1
  rw [e1] at h2
  cases h2
  rw [e4] at h
  cases h
/-- a slot gets a list of one's own -/
theorem Sg.setOwn (g : Sg K Bv Bs Hv H ρ σ) {i : Nat} {l : List D} {p : Addr} {xs : List V} (h1 : Bs p = none) (h2 : Hv p = none) (h3 : H p = some (.lst xs)) (h4 : RpL K Hv l xs) (hn : NotOwn ρ σ p) : Sg K Bv Bs Hv H (ρ.set i (.own l)) (σ.set i (some (.ref p))) := by
  refine ⟨g.vx, by rw [List.length_set, List.length_set, g.len], fun j e hj => ?_, fun j k m m' q e1 e2 e3 e4 => ?_⟩
  · by_cases hij : i = j
    · subst hij
      have hl : i < ρ.length := by
        have := (List.getElem?_eq_some_iff.mp hj).1
        rwa [List.length_set] at this
      rw [List.getElem?_set_self hl] at hj
      cases hj
      refine ⟨some (.ref p), List.getElem?_set_self (by rw [g.len]; exact hl), p, xs, rfl, h1, h2, h3, h4⟩
    · rw [List.getElem?_set_ne hij] at hj
      rw [List.getElem?_set_ne hij]
      exact g.at_ j e hj
  · by_cases z1 : i = j
    · by_cases z2 : i = k
      · exact z1.symm.trans z2
      · exfalso
        subst z1
        have hl : i < ρ.length := by
          have := (List.getElem?_eq_some_iff.mp e1).1
          rwa [List.length_set] at this
        rw [List.getElem?_set_self (by rw [g.len]; exact hl)] at e3
        cases e3
        rw [List.getElem?_set_ne z2] at e2 e4
        exact hn k _ e2 e4
    · by_cases z2 : i = k
      · exfalso
        subst z2
        have hl : i < ρ.length := by
          have := (List.getElem?_eq_some_iff.mp e2).1
          rwa [List.length_set] at this
        rw [List.getElem?_set_self (by rw [g.len]; exact hl)] at e4
        cases e4
        rw [List.getElem?_set_ne z1] at e1 e3
        exact hn j _ e1 e3
      · rw [List.getElem?_set_ne z1] at e1 e3
        rw [List.getElem?_set_ne z2] at e2 e4
        exact g.sep j k m m' q e1 e2 e3 e4
/-- an own list changes in place -/
theorem Sg.upd (g : Sg K Bv Bs Hv H ρ σ) {i : Nat} {l l' : List D} {p : Addr} {ys : List V} (h : ρ[i]? = some (.own l)) (hs : σ[i]? = some (some (.ref p))) (h4 : RpL K Hv l' ys) :
    Sg K Bv Bs Hv (upd H p (.lst ys)) (ρ.set i (.own l')) σ := by
  obtain ⟨q, xs, e1, e2, e3, e4, e5⟩ := g.own h
  rw [hs] at e1
  cases e1
  have hl : i < ρ.length := (List.getElem?_eq_some_iff.mp h).1
  have hx : Ex Bs (L2.upd H p (.lst ys)) := Ex.mut g.vx.hh e2
  have hy : Ex Hv (L2.upd H p (.lst ys)) := Ex.mut g.vx.vh e3
  refine ⟨⟨g.vx.vv, hx, hy, g.vx.fr⟩, by rw [List.length_set, g.len], fun j e hj => ?_, fun j k m m' r f1 f2 f3 f4 => ?_⟩
  · by_cases hij : i = j
    · subst hij
      rw [List.getElem?_set_self hl] at hj
      cases hj
      exact ⟨_, hs, p, ys, rfl, e2, e3, upd_same, h4⟩
    · rw [List.getElem?_set_ne hij] at hj
      obtain ⟨o, g1, g2⟩ := g.at_ j e hj
      refine ⟨o, g1, ?_⟩
      cases e with
      | no => exact trivial
      | val d => exact g2
      | exc a od ns ds => exact g2
      | slf r C ns l =>
        obtain ⟨r1, r2, r3, dx, zs, r4, r5, r6⟩ := g2
        have nr : r ≠ p := fun z => by
          rw [z, e4] at r4
          cases r4
        exact ⟨r1, r2, r3, dx, zs, by rw [upd_ne nr]; exact r4, r5, r6⟩
      | own m =>
        obtain ⟨r, zs, r1, r2, r3, r4, r5⟩ := g2
        subst r1
        have nr : r ≠ p := fun z => hij (g.sep i j _ _ p h hj hs (z ▸ g1))
        exact ⟨r, zs, rfl, r2, r3, by rw [upd_ne nr]; exact r4, r5⟩
  · have go : ∀ {n : Nat} {m : List D}, (ρ.set i (.own l'))[n]? = some (.own m) → ∃ m2, ρ[n]? = some (.own m2) := fun {n m} z => by
      by_cases hin : i = n
      · subst hin
        exact ⟨_, h⟩
      · rw [List.getElem?_set_ne hin] at z
        exact ⟨_, z⟩
    obtain ⟨m1, f1⟩ := go f1
    obtain ⟨m2, f2⟩ := go f2
    exact g.sep j k _ _ r f1 f2 f3 f4
/-- an own list becomes data -/
theorem Sg.freezeAt (g : Sg K Bv Bs Hv H ρ σ) {p : Addr} {xs : List V} (h1 : Bs p = none) (h2 : Hv p = none) (h3 : H p = some (.lst xs)) (hn : NotOwn ρ σ p) :
    Sg K Bv Bs (L2.upd Hv p (.lst xs)) H ρ σ := by
  have hx : Ex Hv (L2.upd Hv p (.lst xs)) := Ex.new h2
  refine ⟨⟨g.vx.vv.trans hx, g.vx.hh, fun a o e => ?_, fun a o e => ?_⟩, g.len, fun i e h => ?_, g.sep⟩
  · by_cases z : a = p
    · subst z
      rw [upd_same] at e
      cases e
      exact h3
    · rw [upd_ne z] at e
      exact g.vx.vh a o e
  · by_cases z : a = p
    · subst z
      exact .inr h1
    · rw [upd_ne z] at e
      exact g.vx.fr a o e
  · obtain ⟨o, e1, e2⟩ := g.at_ i e h
    refine ⟨o, e1, ?_⟩
    cases e with
    | no => exact trivial
    | val d =>
      obtain ⟨v, a1, a2⟩ := e2
      exact ⟨v, a1, rp_mono hx a2⟩
    | exc a od ns ds => exact ⟨e2.1, e2.2.mono hx⟩
    | slf r C ns l =>
      obtain ⟨r1, r2, r3, dx, zs, r4, r5, r6⟩ := e2
      have nr : r ≠ p := fun z => by
        rw [z, h3] at r4
        cases r4
      exact ⟨r1, r2, by rw [upd_ne nr]; exact r3, dx, zs, r4, r5, rpL_mono hx r6⟩
    | own l =>
      obtain ⟨q, ys, a1, a2, a3, a4, a5⟩ := e2
      subst a1
      have nq : q ≠ p := fun z => hn i l h (z ▸ e1)
      exact ⟨q, ys, rfl, a2, by rw [upd_ne nq]; exact a3, a4, rpL_mono hx a5⟩
theorem WkL.no : ∀ (ρ : List E) (i : Nat), WkL ρ (ρ.set i .no)
  | [], _ => .nil
  | e :: r, 0 => .cons (.no e) (WkL.refl r)
  | e :: r, i + 1 => .cons (.same e) (WkL.no r i)
theorem set_set_E : ∀ (ρ : List E) (i : Nat) (a b : E), (ρ.set i a).set i b = ρ.set i b
  | [], _, _, _ => rfl
  | _ :: _, 0, _, _ => rfl
  | e :: r, i + 1, a, b => by
    show e :: (r.set i a).set i b = e :: r.set i b
    rw [set_set_E]
theorem set_self_of : ∀ {α : Type} (l : List α) (i : Nat) (a : α), l[i]? = some a → l.set i a = l
  | _, [], _, _, _ => rfl
  | _, x :: r, 0, a, h => by
    simp at h
    subst h
    rfl
  | _, x :: r, i + 1, a, h => by
    show x :: r.set i a = x :: r
    rw [set_self_of r i a (by simpa using h)]
theorem Sg.freeze (g : Sg K Bv Bs Hv H ρ σ) {i : Nat} {l : List D} (h : ρ[i]? = some (.own l)) : ∃ Hv', Ex Hv Hv' ∧ Sg K Bv Bs Hv' H (ρ.set i (.val (.lst l))) σ := by
  obtain ⟨p, xs, e1, e2, e3, e4, e5⟩ := g.own h
  have hl : i < ρ.length := (List.getElem?_eq_some_iff.mp h).1
  have hx : Ex Hv (L2.upd Hv p (.lst xs)) := Ex.new e3
  have g1 : Sg K Bv Bs Hv H (ρ.set i .no) σ := g.wk (WkL.no ρ i)
  have hn : NotOwn (ρ.set i .no) σ p := fun j m a b => by
    by_cases z : i = j
    · subst z
      rw [List.getElem?_set_self hl] at a
      cases a
    · rw [List.getElem?_set_ne z] at a
      exact z (g.sep i j _ _ p h a e1 b)
  have g2 := g1.freezeAt e2 e3 e4 hn
  have g3 := g2.set (i := i) (d := .lst l) (v := .ref p) (by
    unfold Rp
    exact ⟨p, xs, rfl, .inl (.inl upd_same), rpL_mono hx e5⟩)
  rw [set_set_E, set_self_of σ i _ e1] at g3
  exact ⟨_, hx, g3⟩
end
end PL
namespace PL
open PySem PySem.Spec L2
open Evl (Ex)

/-! ### judgements -/
def tD (K : PySem.W.Frag) (ρ : List E) (d : D) : TE := fun σ H Q => ∃ Bv Bs Hv, Sg K Bv Bs Hv H ρ σ ∧ ∀ v H' Hv', Sg K Bv Bs Hv' H' ρ σ → Vx Hv H Hv' H' → Rp K Hv' d v → Q v H'
/-- told of the heap as it stands (own lists too) -/
def tW (K : PySem.W.Frag) (ρ : List E) (d : D) : TE := fun σ H Q => ∃ Bv Bs Hv, Sg K Bv Bs Hv H ρ σ ∧ ∀ v H' Hv', Sg K Bv Bs Hv' H' ρ σ → Vx Hv H Hv' H' → Rp K H' d v → Q v H'
/-- a new list that nothing names -/
def tO (K : PySem.W.Frag) (ρ : List E) (l : List D) : TE := fun σ H Q => ∃ Bv Bs Hv, Sg K Bv Bs Hv H ρ σ ∧ ∀ p xs H' Hv', Sg K Bv Bs Hv' H' ρ σ → Vx Hv H Hv' H' → Bs p = none → Hv' p = none → H' p = some (.lst xs) → RpL K Hv' l xs → NotOwn ρ σ p → H p = none → Q (.ref p) H'
def tBl (K : PySem.W.Frag) (ρ : List E) (b : Bool) : TT := fun σ H Q => ∃ Bv Bs Hv, Sg K Bv Bs Hv H ρ σ ∧ ∀ H' Hv', Sg K Bv Bs Hv' H' ρ σ → Vx Hv H Hv' H' → Q b H'
def tDs (K : PySem.W.Frag) (ρ : List E) (ds : List D) : TA := fun σ H Q => ∃ Bv Bs Hv, Sg K Bv Bs Hv H ρ σ ∧ ∀ vs H' Hv', Sg K Bv Bs Hv' H' ρ σ → Vx Hv H Hv' H' → RpL K Hv' ds vs → Q vs H'
def tWs (K : PySem.W.Frag) (ρ : List E) (ds : List D) : TA := fun σ H Q => ∃ Bv Bs Hv, Sg K Bv Bs Hv H ρ σ ∧ ∀ vs H' Hv', Sg K Bv Bs Hv' H' ρ σ → Vx Hv H Hv' H' → RpL K H' ds vs → Q vs H'

abbrev XE (X : Cx) (ρ : List E) (e : Expr) (d : D) : Prop := PE X e (tD X.K ρ d)
abbrev XW (X : Cx) (ρ : List E) (e : Expr) (d : D) : Prop := PE X e (tW X.K ρ d)
abbrev XO (X : Cx) (ρ : List E) (e : Expr) (l : List D) : Prop := PE X e (tO X.K ρ l)
abbrev XT (X : Cx) (ρ : List E) (e : Expr) (b : Bool) : Prop := PT X e (tBl X.K ρ b)
abbrev XV (X : Cx) (ρ : List E) (e : Expr) (b : Bool) : Prop := PW X e (tBl X.K ρ b)
abbrev XA (X : Cx) (ρ : List E) (es : List Expr) (ds : List D) : Prop := PA X es (tDs X.K ρ ds)
abbrev XAw (X : Cx) (ρ : List E) (es : List Expr) (ds : List D) : Prop := PA X es (tWs X.K ρ ds)

theorem PE.imp {X : Cx} {e : Expr} {t t' : TE} (h : PE X e t) (i : ∀ σ H Q, t' σ H Q → t σ H Q) : PE X e t' := ⟨fun pins s σ H Q I w => h.run pins s σ H Q I (i σ H Q w)⟩
theorem PT.imp {X : Cx} {e : Expr} {t t' : TT} (h : PT X e t) (i : ∀ σ H Q, t' σ H Q → t σ H Q) : PT X e t' := ⟨fun pins s σ H Q I w => h.run pins s σ H Q I (i σ H Q w)⟩
theorem PW.imp {X : Cx} {e : Expr} {t t' : TT} (h : PW X e t) (i : ∀ σ H Q, t' σ H Q → t σ H Q) : PW X e t' := ⟨fun wh pins s σ H Q I w => h.run wh pins s σ H Q I (i σ H Q w)⟩
theorem PA.imp {X : Cx} {es : List Expr} {t t' : TA} (h : PA X es t) (i : ∀ σ H Q, t' σ H Q → t σ H Q) : PA X es t' := ⟨fun pos pins s σ H Q I w => h.run pos pins s σ H Q I (i σ H Q w)⟩
theorem PS.imp {X : Cx} {e : Stmt} {t t' : TS} (h : PS X e t) (i : ∀ D σ H, t' D σ H → t D σ H) : PS X e t' := ⟨fun pins s σ H D I w => h.run pins s σ H D I (i D σ H w)⟩
theorem PSs.imp {X : Cx} {e : List Stmt} {t t' : TS} (h : PSs X e t) (i : ∀ D σ H, t' D σ H → t D σ H) : PSs X e t' := ⟨fun pins s σ H D I w => h.run pins s σ H D I (i D σ H w)⟩
theorem PG.imp {X : Cx} {e : Expr} {t t' : TG} (h : PG X e t) (i : ∀ v σ H Q, t' v σ H Q → t v σ H Q) : PG X e t' := ⟨fun pins s σ H v u Q I r w => h.run pins s σ H v u Q I r (i v σ H Q w)⟩

section
variable {X : Cx} {ρ : List E} {e a b : Expr} {d x y z : D} {pos : Pos}

theorem Vx.freeze {Hv H Hv' H' : Hp} {p : Addr} {o : HO} (x : Vx Hv H Hv' H') (h2 : Hv' p = none) (h3 : H' p = some o) (h6 : H p = none) : Vx Hv H (upd Hv' p o) H' := ⟨x.vv.trans (Ex.new h2), x.hh, fun a u e => by
  by_cases z : a = p
  · subst z
    rw [upd_same] at e
    rw [h3, e]
  · rw [upd_ne z] at e
    exact x.vh a u e, fun a u e => by
  by_cases z : a = p
  · subst z
    exact .inr h6
  · rw [upd_ne z] at e
    exact x.fr a u e⟩
theorem Vx.newV {Hv H : Hp} {p : Addr} {o : HO} (x : Ex Hv H) (h : H p = none) : Vx Hv H (upd Hv p o) (upd H p o) := by
  have h1 : Hv p = none := Evl.fresh_back x h
  refine ⟨Ex.new h1, Ex.new h, fun a u e => ?_, fun a u e => ?_⟩
  · by_cases z : a = p
    · subst z
      rw [upd_same] at e ⊢
      exact e
    · rw [upd_ne z] at e ⊢
      exact x a u e
  · by_cases z : a = p
    · subst z
      exact .inr h
    · rw [upd_ne z] at e
      exact .inl e
theorem Vx.newH {Hv H : Hp} {p : Addr} {o : HO} (x : Ex Hv H) (h : H p = none) : Vx Hv H Hv (upd H p o) := ⟨Ex.refl _, Ex.new h, x.trans (Ex.new h), fun a u e => .inl e⟩
theorem XE.w (h : XE X ρ e d) : XW X ρ e d := PE.imp h fun σ H Q ⟨Bv, Bs, Hv, g, k⟩ => ⟨Bv, Bs, Hv, g, fun v H' Hv' g' e1 r => k v H' Hv' g' e1 (rp_mono g'.vx.vh r)⟩
/-- a value without an address is told as well by the heap -/
theorem XW.s {u : V} (h : XW X ρ e (.v u)) : XE X ρ e (.v u) := PE.imp h fun σ H Q ⟨Bv, Bs, Hv, g, k⟩ => ⟨Bv, Bs, Hv, g, fun v H' Hv' g' e1 r => k v H' Hv' g' e1 (rp_v r ▸ rp_v')⟩
theorem XO.dat {l : List D} (h : XO X ρ e l) : XE X ρ e (.lst l) := PE.imp h fun σ H Q ⟨Bv, Bs, Hv, g, k⟩ => ⟨Bv, Bs, Hv, g, fun p xs H' Hv' g' e1 h1 h2 h3 h4 h5 h6 => by
  have hx : Ex Hv' (upd Hv' p (.lst xs)) := Ex.new h2
  refine k (.ref p) H' (upd Hv' p (.lst xs)) (g'.freezeAt h1 h2 h3 h5) (e1.freeze h2 h3 h6) ?_
  unfold Rp
  exact ⟨p, xs, rfl, .inl (.inl upd_same), rpL_mono hx h4⟩⟩
theorem XE.is (h : XE X ρ e d) (q : d = x) : XE X ρ e x := q ▸ h
theorem XT.is {b c : Bool} (h : XT X ρ e b) (q : b = c) : XT X ρ e c := q ▸ h

/-! ### names and constants -/
theorem xe_name (i : Nat) {s : Str} (hN : X.N[i]? = some s) (hv : Vis X.env.scope s) (hr : ρ[i]? = some (.val d)) (hd : (s == ("__debug__" : Str)) = false := by decide) (hcd : (s == ("__classdict__" : Str)) = false := by decide) : XE X ρ (.Name s pos) d :=
  PE.imp (pe_var (i := i) hN hv hd hcd) fun σ H Q ⟨Bv, Bs, Hv, g, k⟩ => by
    obtain ⟨v, h1, h2⟩ := g.val hr
    exact ⟨v, h1, k v H Hv g (Vx.refl g.vx.vh) h2⟩
theorem xw_own (i : Nat) {s : Str} {l : List D} (hN : X.N[i]? = some s) (hv : Vis X.env.scope s) (hr : ρ[i]? = some (.own l)) (hd : (s == ("__debug__" : Str)) = false := by decide) (hcd : (s == ("__classdict__" : Str)) = false := by decide) : XW X ρ (.Name s pos) (.lst l) :=
  PE.imp (pe_var (i := i) hN hv hd hcd) fun σ H Q ⟨Bv, Bs, Hv, g, k⟩ => by
    obtain ⟨p, xs, h1, h2, h3, h4, h5⟩ := g.own hr
    refine ⟨.ref p, h1, k _ H Hv g (Vx.refl g.vx.vh) ?_⟩
    unfold Rp
    exact ⟨p, xs, rfl, .inl (.inl h4), rpL_mono g.vx.vh h5⟩
theorem xe_of {t : TE} {u : V} (h : PE X e t) (ht : ∀ σ H Q, Q u H → t σ H Q) : XE X ρ e (.v u) := PE.imp h fun σ H Q ⟨Bv, Bs, Hv, g, k⟩ => ht σ H Q (k u H Hv g (Vx.refl g.vx.vh) rp_v')
theorem xe_int {i j} : XE X ρ (.Constant (.int i) j pos) (.int i) := xe_of pe_int fun _ _ _ h => h
theorem xe_bl {i j} : XE X ρ (.Constant (.bool i) j pos) (.bl i) := xe_of pe_bl fun _ _ _ h => h
theorem xe_non {j} : XE X ρ (.Constant .none j pos) .non := xe_of pe_non fun _ _ _ h => h
theorem xe_str {i j} : XE X ρ (.Constant (.str i) j pos) (.str i) := xe_of pe_str fun _ _ _ h => h
/-- a global that holds a plain value -/
theorem xe_glob {s : Str} {v : V} {u : Value} (hg : Gl X s) (hm : X.mg s = some u) (r : RelV v u) (hd : (s == ("__debug__" : Str)) = false := by decide) : XE X ρ (.Name s pos) (.v v) := xe_of (pe_glob hg hm r hd) fun _ _ _ h => h
/-- a global that holds data of the written part -/
theorem xe_globD {s : Str} {v : V} {u : Value} (hg : Gl X s) (hm : X.mg s = some u) (r : RelV v u) (hr : ∀ H, Rp X.K H d v) (hd : (s == ("__debug__" : Str)) = false := by decide) : XE X ρ (.Name s pos) d :=
  PE.imp (pe_glob hg hm r hd) fun σ H Q ⟨Bv, Bs, Hv, g, k⟩ => k v H Hv g (Vx.refl g.vx.vh) (hr Hv)

/-! ### operators upon plain values -/
/-- r asks of plain values u, w and gives z, the heap as it is -/
def R2v (r : R2) (u w z : V) : Prop := ∀ H Q, Q z H → r u w H Q
theorem xw_op {op : Operator} {r : R2} {u w z : V} (ho : OpR X (binaryOp op) r) (ha : XW X ρ a (.v u)) (hb : XW X ρ b (.v w)) (hr : R2v r u w z) : XE X ρ (.BinOp a op b pos) (.v z) :=
  PE.imp (pe_op ho ha hb) fun σ H Q ⟨Bv, Bs, Hv, g, k⟩ => ⟨Bv, Bs, Hv, g, fun v1 H1 Hv1 g1 e1 r1 => ⟨Bv, Bs, Hv1, g1, fun v2 H2 Hv2 g2 e2 r2 => by
    rw [rp_v r1, rp_v r2]
    exact hr _ _ (k z H2 Hv2 g2 (e1.trans e2) rp_v')⟩⟩
theorem xe_op {op : Operator} {r : R2} {u w z : V} (ho : OpR X (binaryOp op) r) (ha : XE X ρ a (.v u)) (hb : XE X ρ b (.v w)) (hr : R2v r u w z) : XE X ρ (.BinOp a op b pos) (.v z) := xw_op ho ha.w hb.w hr
theorem xe_un {op : UnaryOp} {r : V → Hp → VK → Prop} {u z : V} (ho : UnR X (unaryOp op) r) (ha : XE X ρ a (.v u)) (hr : ∀ H Q, Q z H → r u H Q) : XE X ρ (.UnaryOp op a pos) (.v z) :=
  PE.imp (pe_un ho ha) fun σ H Q ⟨Bv, Bs, Hv, g, k⟩ => ⟨Bv, Bs, Hv, g, fun v1 H1 Hv1 g1 e1 r1 => by
    rw [rp_v r1]
    exact hr _ _ (k z H1 Hv1 g1 e1 rp_v')⟩
variable {i j : Int}
theorem r2_I0 {f : Int → Int → V} : R2v (rI0 f) (.int i) (.int j) (f i j) := fun _ _ q => ⟨i, j, rfl, rfl, q⟩
theorem r2_I {C : Int → Int → Prop} {f : Int → Int → V} (h : C i j) : R2v (rI C f) (.int i) (.int j) (f i j) := fun _ _ q => ⟨i, j, rfl, rfl, h, q⟩
theorem xe_add (ha : XE X ρ a (.int i)) (hb : XE X ρ b (.int j)) : XE X ρ (.BinOp a .Add b pos) (.int (i + j)) := xe_op op_add ha hb r2_I0
theorem xe_sub (ha : XE X ρ a (.int i)) (hb : XE X ρ b (.int j)) : XE X ρ (.BinOp a .Sub b pos) (.int (i - j)) := xe_op op_sub ha hb r2_I0
theorem xe_mul (ha : XE X ρ a (.int i)) (hb : XE X ρ b (.int j)) (h : CMul i j) : XE X ρ (.BinOp a .Mult b pos) (.int (i * j)) := xe_op op_mul ha hb (r2_I h)
theorem xe_fdiv (ha : XE X ρ a (.int i)) (hb : XE X ρ b (.int j)) (h : CDiv i j) : XE X ρ (.BinOp a .FloorDiv b pos) (.int (i / j)) := xe_op op_fdiv ha hb (r2_I h)
theorem xe_mod (ha : XE X ρ a (.int i)) (hb : XE X ρ b (.int j)) (h : 0 < j) : XE X ρ (.BinOp a .Mod b pos) (.int (i % j)) := xe_op op_mod ha hb (r2_I (C := fun _ j => 0 < j) h)
theorem xe_pow (ha : XE X ρ a (.int i)) (hb : XE X ρ b (.int j)) (h : CPow i j) : XE X ρ (.BinOp a .Pow b pos) (.int (i ^ j.toNat)) := xe_op op_pow ha hb (r2_I h)
theorem xe_shl (ha : XE X ρ a (.int i)) (hb : XE X ρ b (.int j)) (h : CPow i j) : XE X ρ (.BinOp a .LShift b pos) (.int (i * 2 ^ j.toNat)) := xe_op op_shl ha hb (r2_I h)
theorem xe_shr (ha : XE X ρ a (.int i)) (hb : XE X ρ b (.int j)) (h : 0 ≤ j) : XE X ρ (.BinOp a .RShift b pos) (.int (i / 2 ^ j.toNat)) := xe_op op_shr ha hb (r2_I (C := fun _ j => 0 ≤ j) h)
theorem xe_and (ha : XE X ρ a (.int i)) (hb : XE X ρ b (.int j)) : XE X ρ (.BinOp a .BitAnd b pos) (.int (Builtin.bitAnd i j)) := xe_op op_and ha hb r2_I0
theorem xe_or (ha : XE X ρ a (.int i)) (hb : XE X ρ b (.int j)) : XE X ρ (.BinOp a .BitOr b pos) (.int (Builtin.bitOr i j)) := xe_op op_or ha hb r2_I0
theorem xe_xor (ha : XE X ρ a (.int i)) (hb : XE X ρ b (.int j)) : XE X ρ (.BinOp a .BitXor b pos) (.int (Builtin.bitXor i j)) := xe_op op_xor ha hb r2_I0
theorem xe_neg (ha : XE X ρ a (.int i)) : XE X ρ (.UnaryOp .USub a pos) (.int (-i)) := xe_un un_neg ha fun _ _ q => ⟨i, rfl, q⟩
theorem xe_cat {s t : Str} (ha : XE X ρ a (.str s)) (hb : XE X ρ b (.str t)) (h : s.length + t.length ≤ sizeLine) : XE X ρ (.BinOp a .Add b pos) (.str (s ++ t)) := xe_op op_add_str ha hb fun _ _ q => ⟨s, t, rfl, rfl, h, q⟩

/-! ### comparisons -/
theorem xw_cmp {op : CmpOp} {r : R2} {u w z : V} (ho : OpR X (compareOp op) r) (ha : XW X ρ a (.v u)) (hb : XW X ρ b (.v w)) (hr : R2v r u w z) (hm : behindInMarks op b = false) : XE X ρ (.Compare a [op] [b] pos) (.v z) :=
  PE.imp (pe_cmpR ho ha hb hm) fun σ H Q ⟨Bv, Bs, Hv, g, k⟩ => ⟨Bv, Bs, Hv, g, fun v1 H1 Hv1 g1 e1 r1 => ⟨Bv, Bs, Hv1, g1, fun v2 H2 Hv2 g2 e2 r2 => by
    rw [rp_v r1, rp_v r2]
    exact hr _ _ (k z H2 Hv2 g2 (e1.trans e2) rp_v')⟩⟩
theorem xt_cmp {op : CmpOp} {r : R2} {u w : V} {c : Bool} (ho : OpR X (compareOp op) r) (ha : XE X ρ a (.v u)) (hb : XE X ρ b (.v w)) (hr : R2v r u w (.bl c)) (hm : behindInMarks op b = false) : XT X ρ (.Compare a [op] [b] pos) c :=
  PT.imp (pt_cmpR ho ha hb hm) fun σ H Q ⟨Bv, Bs, Hv, g, k⟩ => ⟨Bv, Bs, Hv, g, fun v1 H1 Hv1 g1 e1 r1 => ⟨Bv, Bs, Hv1, g1, fun v2 H2 Hv2 g2 e2 r2 => by
    rw [rp_v r1, rp_v r2]
    exact hr _ _ ⟨c, rfl, k H2 Hv2 g2 (e1.trans e2)⟩⟩⟩
/-- what a comparison of plain values gives -/
inductive Cmp : CmpOp → V → V → Bool → Prop where
  | lt (i j : Int) : Cmp .Lt (.int i) (.int j) (decide (i < j))
  | le (i j : Int) : Cmp .LtE (.int i) (.int j) (decide (i ≤ j))
  | gt (i j : Int) : Cmp .Gt (.int i) (.int j) (decide (j < i))
  | ge (i j : Int) : Cmp .GtE (.int i) (.int j) (decide (j ≤ i))
  | eqI (i j : Int) : Cmp .Eq (.int i) (.int j) (decide (i = j))
  | neI (i j : Int) : Cmp .NotEq (.int i) (.int j) (!decide (i = j))
  | eqS (i j : Str) : Cmp .Eq (.str i) (.str j) (decide (i = j))
  | neS (i j : Str) : Cmp .NotEq (.str i) (.str j) (!decide (i = j))
  | eqB (i j : Bool) : Cmp .Eq (.bl i) (.bl j) (i == j)
  | neB (i j : Bool) : Cmp .NotEq (.bl i) (.bl j) (!(i == j))
  | isB (i j : Bool) : Cmp .Is (.bl i) (.bl j) (decide (i = j))
  | notB (i j : Bool) : Cmp .IsNot (.bl i) (.bl j) (!decide (i = j))
  | isN (x : V) : Cmp .Is x .non (decide (x = .non))
  | notN (x : V) : Cmp .IsNot x .non (!decide (x = .non))
theorem dec_int' {i j : Int} : decide (V.int i = V.int j) = decide (i = j) := by
  by_cases h : i = j
  · subst h
    simp
  · simp [h]
theorem dec_str' {i j : Str} : decide (V.str i = V.str j) = decide (i = j) := by
  by_cases h : i = j
  · subst h
    simp
  · simp [h]
theorem Cmp.rule {op : CmpOp} {u w : V} {c : Bool} (h : Cmp op u w c) : ∃ r : R2, OpR X (compareOp op) r ∧ R2v r u w (.bl c) ∧ op ≠ .In ∧ op ≠ .NotIn := by
  cases h with
  | lt i j => exact ⟨_, op_lt, r2_I0, by decide, by decide⟩
  | le i j => exact ⟨_, op_le, r2_I0, by decide, by decide⟩
  | gt i j => exact ⟨_, op_gt, r2_I0, by decide, by decide⟩
  | ge i j => exact ⟨_, op_ge, r2_I0, by decide, by decide⟩
  | eqI i j => exact ⟨_, op_eq, fun _ _ q => ⟨rfl, by rw [dec_int']; exact q⟩, by decide, by decide⟩
  | neI i j => exact ⟨_, op_ne, fun _ _ q => ⟨rfl, by rw [dec_int']; exact q⟩, by decide, by decide⟩
  | eqS i j => exact ⟨_, op_eq, fun _ _ q => ⟨rfl, by rw [dec_str']; exact q⟩, by decide, by decide⟩
  | neS i j => exact ⟨_, op_ne, fun _ _ q => ⟨rfl, by rw [dec_str']; exact q⟩, by decide, by decide⟩
  | eqB i j => exact ⟨_, op_eq, fun _ _ q => ⟨rfl, by rw [dec_bl]; exact q⟩, by decide, by decide⟩
  | neB i j => exact ⟨_, op_ne, fun _ _ q => ⟨rfl, by rw [dec_bl]; exact q⟩, by decide, by decide⟩
  | isB i j => exact ⟨_, op_is_bl, fun _ _ q => ⟨i, j, rfl, rfl, q⟩, by decide, by decide⟩
  | notB i j => exact ⟨_, op_isnot_bl, fun _ _ q => ⟨i, j, rfl, rfl, q⟩, by decide, by decide⟩
  | isN x => exact ⟨_, op_isN, fun _ _ q => ⟨rfl, q⟩, by decide, by decide⟩
  | notN x => exact ⟨_, op_notN, fun _ _ q => ⟨rfl, q⟩, by decide, by decide⟩
theorem xe_cmp {op : CmpOp} {u w : V} {c : Bool} (ha : XE X ρ a (.v u)) (hb : XE X ρ b (.v w)) (h : Cmp op u w c) : XE X ρ (.Compare a [op] [b] pos) (.bl c) := by
  obtain ⟨r, h1, h2, h3, h4⟩ := h.rule (X := X)
  exact xw_cmp h1 ha.w hb.w h2 (nomark _ h3 h4)
theorem xt_cmpv {op : CmpOp} {u w : V} {c : Bool} (ha : XE X ρ a (.v u)) (hb : XE X ρ b (.v w)) (h : Cmp op u w c) : XT X ρ (.Compare a [op] [b] pos) c := by
  obtain ⟨r, h1, h2, h3, h4⟩ := h.rule (X := X)
  exact xt_cmp h1 ha hb h2 (nomark _ h3 h4)

/-! ### tests -/
theorem xt_val {c : Bool} (h : XE X ρ e (.bl c)) (he : ∀ whole, isTrue e X.env whole = (do let v ← whole; standAt e.pos; holding [v] (truthy v)) := by intro _; rfl) : XT X ρ e c :=
  PT.imp (pt_val h he) fun σ H Q ⟨Bv, Bs, Hv, g, k⟩ => ⟨Bv, Bs, Hv, g, fun v1 H1 Hv1 g1 e1 r1 => ⟨c, rp_v r1, k H1 Hv1 g1 e1⟩⟩
theorem xt_not {c : Bool} (h : XT X ρ a c) : XT X ρ (.UnaryOp .Not a pos) (!c) :=
  PT.imp (pt_not h) fun σ H Q ⟨Bv, Bs, Hv, g, k⟩ => ⟨Bv, Bs, Hv, g, fun H1 Hv1 g1 e1 => k H1 Hv1 g1 e1⟩
theorem xv_and1 {c : Bool} (h : XT X ρ a c) : XV X ρ (.BoolOp .And [a] pos) c := pw_and1 h
theorem xv_or1 {c : Bool} (h : XT X ρ a c) : XV X ρ (.BoolOp .Or [a] pos) c := pw_or1 h
theorem xv_and {c k : Bool} {rest : List Expr} (h : XT X ρ a c) (h2 : c = true → XV X ρ (.BoolOp .And (b :: rest) pos) k) : XV X ρ (.BoolOp .And (a :: b :: rest) pos) (c && k) := by
  cases c with
  | true =>
    exact PW.imp (pw_and h (h2 rfl)) fun σ H Q ⟨Bv, Bs, Hv, g, k⟩ => ⟨Bv, Bs, Hv, g, fun H1 Hv1 g1 e1 => iteT ⟨Bv, Bs, Hv1, g1, fun H2 Hv2 g2 e2 => k H2 Hv2 g2 (e1.trans e2)⟩⟩
  | false =>
    exact PW.imp (pw_and h (b := b) (rest := rest) (tB' := fun _ _ _ => False) ⟨fun _ _ _ _ _ _ _ h => h.elim⟩) fun σ H Q ⟨Bv, Bs, Hv, g, k⟩ => ⟨Bv, Bs, Hv, g, fun H1 Hv1 g1 e1 => iteF (k H1 Hv1 g1 e1)⟩
theorem xv_or {c k : Bool} {rest : List Expr} (h : XT X ρ a c) (h2 : c = false → XV X ρ (.BoolOp .Or (b :: rest) pos) k) : XV X ρ (.BoolOp .Or (a :: b :: rest) pos) (c || k) := by
  cases c with
  | false =>
    exact PW.imp (pw_or h (h2 rfl)) fun σ H Q ⟨Bv, Bs, Hv, g, k⟩ => ⟨Bv, Bs, Hv, g, fun H1 Hv1 g1 e1 => iteF ⟨Bv, Bs, Hv1, g1, fun H2 Hv2 g2 e2 => k H2 Hv2 g2 (e1.trans e2)⟩⟩
  | true =>
    exact PW.imp (pw_or h (b := b) (rest := rest) (tB' := fun _ _ _ => False) ⟨fun _ _ _ _ _ _ _ h => h.elim⟩) fun σ H Q ⟨Bv, Bs, Hv, g, k⟩ => ⟨Bv, Bs, Hv, g, fun H1 Hv1 g1 e1 => iteT (k H1 Hv1 g1 e1)⟩
theorem XV.t {c : Bool} (h : XV X ρ e c) : XT X ρ e c := PW.pt h
/-- and, or, not as values -/
theorem xe_one {op : BoolOp} {c : V} (h : XE X ρ a (.v c)) : XE X ρ (.BoolOp op [a] pos) (.v c) := pe_one h
theorem xe_andV {c k : Bool} {rest : List Expr} (h : XE X ρ a (.bl c)) (h2 : c = true → XE X ρ (.BoolOp .And (b :: rest) pos) (.bl k)) : XE X ρ (.BoolOp .And (a :: b :: rest) pos) (.bl (c && k)) := by
  cases c with
  | true =>
    exact PE.imp (pe_and h (h2 rfl)) fun σ H Q ⟨Bv, Bs, Hv, g, k⟩ => ⟨Bv, Bs, Hv, g, fun v1 H1 Hv1 g1 e1 r1 => ⟨true, rp_v r1, iteT ⟨Bv, Bs, Hv1, g1, fun v2 H2 Hv2 g2 e2 r2 => k v2 H2 Hv2 g2 (e1.trans e2) r2⟩⟩⟩
  | false =>
    exact PE.imp (pe_and h (b := b) (rest := rest) (tb := fun _ _ _ => False) ⟨fun _ _ _ _ _ _ h => h.elim⟩) fun σ H Q ⟨Bv, Bs, Hv, g, k⟩ => ⟨Bv, Bs, Hv, g, fun v1 H1 Hv1 g1 e1 r1 => ⟨false, rp_v r1, iteF (k _ H1 Hv1 g1 e1 rp_v')⟩⟩
theorem xe_orV {c k : Bool} {rest : List Expr} (h : XE X ρ a (.bl c)) (h2 : c = false → XE X ρ (.BoolOp .Or (b :: rest) pos) (.bl k)) : XE X ρ (.BoolOp .Or (a :: b :: rest) pos) (.bl (c || k)) := by
  cases c with
  | false =>
    exact PE.imp (pe_or h (h2 rfl)) fun σ H Q ⟨Bv, Bs, Hv, g, k⟩ => ⟨Bv, Bs, Hv, g, fun v1 H1 Hv1 g1 e1 r1 => ⟨false, rp_v r1, iteF ⟨Bv, Bs, Hv1, g1, fun v2 H2 Hv2 g2 e2 r2 => k v2 H2 Hv2 g2 (e1.trans e2) r2⟩⟩⟩
  | true =>
    exact PE.imp (pe_or h (b := b) (rest := rest) (tb := fun _ _ _ => False) ⟨fun _ _ _ _ _ _ h => h.elim⟩) fun σ H Q ⟨Bv, Bs, Hv, g, k⟩ => ⟨Bv, Bs, Hv, g, fun v1 H1 Hv1 g1 e1 r1 => ⟨true, rp_v r1, iteT (k _ H1 Hv1 g1 e1 rp_v')⟩⟩
theorem xe_notV {c : Bool} (h : XE X ρ a (.bl c)) : XE X ρ (.UnaryOp .Not a pos) (.bl (!c)) :=
  PE.imp (pe_not h) fun σ H Q ⟨Bv, Bs, Hv, g, k⟩ => ⟨Bv, Bs, Hv, g, fun v1 H1 Hv1 g1 e1 r1 => ⟨c, rp_v r1, k _ H1 Hv1 g1 e1 rp_v'⟩⟩
/-! ### arguments, tuples, lists -/
theorem xa_nil : XA X ρ [] [] := PA.imp pa_nil fun σ H Q ⟨Bv, Bs, Hv, g, k⟩ => k [] H Hv g (Vx.refl g.vx.vh) rpL_nil
theorem xa_cons {es : List Expr} {ds : List D} (h : XE X ρ e d) (t : XA X ρ es ds) (hs : starEach (e :: es) X.env = (false, eval e X.env) :: starEach es X.env := by rfl) : XA X ρ (e :: es) (d :: ds) :=
  PA.imp (pa_cons h t hs) fun σ H Q ⟨Bv, Bs, Hv, g, k⟩ => ⟨Bv, Bs, Hv, g, fun v1 H1 Hv1 g1 e1 r1 => ⟨Bv, Bs, Hv1, g1, fun vs H2 Hv2 g2 e2 r2 => k (v1 :: vs) H2 Hv2 g2 (e1.trans e2) (rpL_cons (rp_mono e2.vv r1) r2)⟩⟩
theorem xaw_nil : XAw X ρ [] [] := PA.imp pa_nil fun σ H Q ⟨Bv, Bs, Hv, g, k⟩ => k [] H Hv g (Vx.refl g.vx.vh) rpL_nil
theorem xaw_cons {es : List Expr} {ds : List D} (h : XW X ρ e d) (t : XAw X ρ es ds) (hs : starEach (e :: es) X.env = (false, eval e X.env) :: starEach es X.env := by rfl) : XAw X ρ (e :: es) (d :: ds) :=
  PA.imp (pa_cons h t hs) fun σ H Q ⟨Bv, Bs, Hv, g, k⟩ => ⟨Bv, Bs, Hv, g, fun v1 H1 Hv1 g1 e1 r1 => ⟨Bv, Bs, Hv1, g1, fun vs H2 Hv2 g2 e2 r2 => k (v1 :: vs) H2 Hv2 g2 (e1.trans e2) (rpL_cons (rp_mono e2.hh r1) r2)⟩⟩
theorem XA.w {es : List Expr} {ds : List D} (h : XA X ρ es ds) : XAw X ρ es ds := PA.imp h fun σ H Q ⟨Bv, Bs, Hv, g, k⟩ => ⟨Bv, Bs, Hv, g, fun v H' Hv' g' e1 r => k v H' Hv' g' e1 (rpL_mono g'.vx.vh r)⟩
/-- a new object lies in the view -/
theorem Sg.newV {K : PySem.W.Frag} {Bv Bs Hv H : Hp} {σ : L2.St} {p : Addr} {o : HO} (g : Sg K Bv Bs Hv H ρ σ) (h : H p = none) : Sg K Bv Bs (L2.upd Hv p o) (L2.upd H p o) ρ σ := by
  have h1 : Hv p = none := Evl.fresh_back g.vx.vh h
  refine g.go ⟨Ex.new h1, Ex.new h, fun a u e => ?_, fun a u e => ?_⟩
  · by_cases z : a = p
    · subst z
      rw [upd_same] at e ⊢
      exact e
    · rw [upd_ne z] at e ⊢
      exact g.vx.vh a u e
  · by_cases z : a = p
    · subst z
      exact .inr h
    · rw [upd_ne z] at e
      exact .inl e
/-- a new object lies in the heap alone -/
theorem Sg.newH {K : PySem.W.Frag} {Bv Bs Hv H : Hp} {σ : L2.St} {p : Addr} {o : HO} (g : Sg K Bv Bs Hv H ρ σ) (h : H p = none) : Sg K Bv Bs Hv (L2.upd H p o) ρ σ :=
  g.go ⟨Ex.refl _, Ex.new h, g.vx.vh.trans (Ex.new h), fun a u e => .inl e⟩
theorem xe_tup {es : List Expr} {ds : List D} {x1} (h : XA X ρ es ds) (hl : ds.length ≤ 1000 := by simp only [List.length_cons, List.length_nil]; decide) : XE X ρ (.Tuple es x1 pos) (.tup ds) :=
  PE.imp (pe_tup h) fun σ H Q ⟨Bv, Bs, Hv, g, k⟩ => ⟨Bv, Bs, Hv, g, fun vs H1 Hv1 g1 e1 r1 => ⟨by
    rw [rpL_len r1]
    exact Evl.sz_of (by omega), fun p hp => by
    have n1 : Hv1 p = none := Evl.fresh_back g1.vx.vh hp
    refine k _ _ _ (g1.newV hp) (e1.trans (Vx.newV g1.vx.vh hp)) ?_
    unfold Rp
    exact ⟨p, vs, rfl, .inl (.inl upd_same), rpL_mono (Ex.new n1) r1⟩⟩⟩
theorem xo_lst {es : List Expr} {ds : List D} (h : XA X ρ es ds) (hl : ds.length ≤ 1000 := by simp only [List.length_cons, List.length_nil]; decide) : XO X ρ (.List es pos) ds :=
  PE.imp (pe_lst h) fun σ H Q ⟨Bv, Bs, Hv, g, k⟩ => ⟨Bv, Bs, Hv, g, fun vs H1 Hv1 g1 e1 r1 => ⟨by
    rw [rpL_len r1]
    exact Evl.sz_of (by omega), fun p hp => by
    have n1 : Hv1 p = none := Evl.fresh_back g1.vx.vh hp
    exact k p vs _ _ (g1.newH hp) (e1.trans (Vx.newH g1.vx.vh hp)) (Evl.fresh_back g1.vx.hh hp) n1 upd_same r1 (g1.notOwn_new hp) (Evl.fresh_back e1.hh hp)⟩⟩
end
end PL
namespace PL
open PySem PySem.Spec L2
open Evl (Ex)

/-- nothing is let out -/
theorem passN {X : Cx} : Passes (L2N.CX X.prog X.w) X E0 := fun _ _ _ _ _ _ _ h => by
  obtain ⟨_, _, _, _, _, _, _, _, _, _, _, _, z⟩ := h
  exact z.elim
open PyProof.Rows in
theorem okN {P : Program} {w : World} {K : PySem.W.Frag} {mg : Str → Option Value} {base : Heap} {x qual : Str} {st : Stmt} {f : Addr} {fd : FuncData} {N ps : List Str} {k : Nat} {sp : Sp} (F : Fun K x qual st f fd) (S : FnScope N ps (defScope st)) (len : ∀ vs H Q E, sp vs H Q E → vs.length = ps.length)
    (hbody : ∀ (cdv : Value) (A : Around) (outer : List Env) (s : Shared) (H : Hp) (vs : List V) (Q : VK) (E : XK), Room k (A.deeper (envOfC qual (defScope st) s.heap.objs.size f cdv)) → sp vs H Q E →
      ∃ t, PSs (cxOf (L2N.CX P w) P w K mg base N qual (defScope st) f cdv A outer s H E) (defBody st) t ∧ t { nx := fun _ H' => Q .non H', rt := Q } (start N vs) H) : FnOk P w K mg base (L2N.CX P w) (k + 1) f fd ps sp := by
  obtain ⟨oc, od, kV, doc, pm, an, cdv, ct, osl, rfl, lk, hcd⟩ := F.ex
  exact fn_of lk hcd S len fun A outer s H vs Q E hr hsp => hbody cdv A outer s H vs Q E hr hsp
/-! ### what a def gives -/
inductive Ro where
  | val (d : D)
  /-- a new list -/
  | fr (l : List D)
  /-- an exception of the class at C, its own fields -/
  | exc (C : Addr) (ns : List Str) (ds : List D)
  /-- a pair; lists in it may be new ones -/
  | frP (a b : E)
  | bad
/-- an item of a new pair: data, or a list that nothing else names -/
def AtN (K : PySem.W.Frag) (H Hv' H' : Hp) : E → V → Prop
  | .val d, v => Rp K Hv' d v
  | .own l, v => ∃ q ys, v = .ref q ∧ H q = none ∧ Hv' q = none ∧ H' q = some (.lst ys) ∧ RpL K Hv' l ys
  | _, _ => False
def Sep2 (a b : E) (x y : V) : Prop := isOwn a = true → isOwn b = true → x ≠ y
def FinR (K : PySem.W.Frag) (Hv H : Hp) (Q : VK) (E : XK) : Ro → Prop
  | .val d => ∀ v H' Hv', Vx Hv H Hv' H' → Rp K Hv' d v → Q v H'
  | .fr l => ∀ p xs H' Hv', Vx Hv H Hv' H' → H p = none → Hv' p = none → H' p = some (.lst xs) → RpL K Hv' l xs → Q (.ref p) H'
  | .exc C ns ds => ∀ od H' Hv', Vx Hv H Hv' H' → ExAt K Hv' ns ds od → E (.ref C) od H'
  | .frP a b => ∀ p x y H' Hv', Vx Hv H Hv' H' → Hv' p = some (.tup [x, y]) → AtN K H Hv' H' a x → AtN K H Hv' H' b y → Sep2 a b x y → Q (.ref p) H'
  | .bad => False
def spD (K : PySem.W.Frag) (n : Nat) (φ : List D → Ro) : Sp := fun vs H Q E => ∃ Hv ds, Ex Hv H ∧ RpL K Hv ds vs ∧ ds.length = n ∧ FinR K Hv H Q E (φ ds)
structure FnC (P : Program) (w : World) (K : PySem.W.Frag) (mg : Str → Option Value) (base : Heap) (x : Str) (k n : Nat) (φ : List D → Ro) : Prop where
  ex : ∃ f fd ps, mg x = some (.ref f) ∧ FnOk P w K mg base (L2N.CX P w) k f fd ps (spD K n φ) ∧ PySem.W.keepIn K (.ref f) = true ∧ Binds K fd ps []

/-- what stands around a body -/
structure Bd (X : Cx) (W : WX) (k : Nat) : Prop where
  nd : X.N.Nodup
  calm : X.calm = true
  room : Room k X.A
  po : PassesOwn (model X.prog X.w) X.A X.env X.xe
  tk : L2N.Takes X W
  fn : ∀ x, X.fn x = true

section
variable {X : Cx} {ρ ρ' : List E} {e a b : Expr} {es : List Expr} {d : D} {ds l : List D} {pos p : Pos} {s : Str} {k n : Nat} {φ : List D → Ro}

theorem xe_call (F : FnC X.prog X.w X.K X.mg X.base s k n φ) (hr : Room k X.A) (hg : Gl X s) (ha : XA X ρ (e :: es) ds) (hn : ds.length = n) (hφ : φ ds = .val d) (hdb : (s == ("__debug__" : Str)) = false := by decide)
    (he : starEach (e :: es) X.env = (false, eval e X.env) :: starEach es X.env := by rfl) (hpl : (backTo pos (starEach es X.env)).any (·.1) = false := by rfl) : XE X ρ (.Call (.Name s p) (e :: es) [] pos) d := by
  obtain ⟨f, fd, ps, hm, F, hk, hb⟩ := F.ex
  refine PE.imp (pe_call F hr hg hm hk hb .nil (passN (X := X)) ha hdb he hpl) fun σ H Q ⟨Bv, Bs, Hv, g, k⟩ => ⟨Bv, Bs, Hv, g, fun vs H1 Hv1 g1 e1 r1 => ?_⟩
  refine ⟨Hv1, ds, g1.vx.vh, by rw [List.append_nil]; exact r1, hn, ?_⟩
  rw [hφ]
  exact fun v H' Hv' x r => k v H' Hv' (g1.go x) (e1.trans x) r
theorem xo_call (F : FnC X.prog X.w X.K X.mg X.base s k n φ) (hr : Room k X.A) (hg : Gl X s) (ha : XA X ρ (e :: es) ds) (hn : ds.length = n) (hφ : φ ds = .fr l) (hdb : (s == ("__debug__" : Str)) = false := by decide)
    (he : starEach (e :: es) X.env = (false, eval e X.env) :: starEach es X.env := by rfl) (hpl : (backTo pos (starEach es X.env)).any (·.1) = false := by rfl) : XO X ρ (.Call (.Name s p) (e :: es) [] pos) l := by
  obtain ⟨f, fd, ps, hm, F, hk, hb⟩ := F.ex
  refine PE.imp (pe_call F hr hg hm hk hb .nil (passN (X := X)) ha hdb he hpl) fun σ H Q ⟨Bv, Bs, Hv, g, k⟩ => ⟨Bv, Bs, Hv, g, fun vs H1 Hv1 g1 e1 r1 => ?_⟩
  refine ⟨Hv1, ds, g1.vx.vh, by rw [List.append_nil]; exact r1, hn, ?_⟩
  rw [hφ]
  exact fun p xs H' Hv' x h1 h2 h3 r => k p xs H' Hv' (g1.go x) (e1.trans x) (Evl.fresh_back g1.vx.hh h1) h2 h3 r (g1.notOwn_new h1) (Evl.fresh_back e1.hh h1)
/-- an expression that raises -/
def tX (K : PySem.W.Frag) (W : WX) (ρ : List E) (C : Addr) (ns : List Str) (ds : List D) : TE := fun σ H _ => ∃ Bv Bs Hv, Sg K Bv Bs Hv H ρ σ ∧ ∀ od H' Hv', Sg K Bv Bs Hv' H' ρ σ → ExAt K Hv' ns ds od → W (.ref C) od σ H'
abbrev XX (X : Cx) (W : WX) (ρ : List E) (e : Expr) (C : Addr) (ns : List Str) (ds : List D) : Prop := PE X e (tX X.K W ρ C ns ds)
theorem xx_call {W : WX} {C : Addr} {ns : List Str} {xs : List D} (F : FnC X.prog X.w X.K X.mg X.base s k n φ) (hr : Room k X.A) (tk : L2N.Takes X W) (hg : Gl X s) (ha : XA X ρ (e :: es) ds) (hn : ds.length = n) (hφ : φ ds = .exc C ns xs) (hdb : (s == ("__debug__" : Str)) = false := by decide)
    (he : starEach (e :: es) X.env = (false, eval e X.env) :: starEach es X.env := by rfl) (hpl : (backTo pos (starEach es X.env)).any (·.1) = false := by rfl) : XX X W ρ (.Call (.Name s p) (e :: es) [] pos) C ns xs := by
  obtain ⟨f, fd, ps, hm, F, hk, hb⟩ := F.ex
  refine PE.imp (pe_callS F hr hg hm hk hb (fun σ => L2N.passAt tk σ) ha hdb he hpl) fun σ H Q ⟨Bv, Bs, Hv, g, k⟩ => ⟨Bv, Bs, Hv, g, fun vs H1 Hv1 g1 e1 r1 => ?_⟩
  refine ⟨Hv1, ds, g1.vx.vh, r1, hn, ?_⟩
  rw [hφ]
  exact fun od H' Hv' x r => k od H' Hv' (g1.go x) r

/-! ### subscripts, len, slices -/
theorem rp_lst {K : PySem.W.Frag} {H : Hp} {u : V} (h : Rp K H (.lst l) u) : ∃ a xs, u = .ref a ∧ SqL K H a xs ∧ RpL K H l xs := by
  unfold Rp at h
  exact h
theorem rp_tup {K : PySem.W.Frag} {H : Hp} {u : V} (h : Rp K H (.tup l) u) : ∃ a xs, u = .ref a ∧ SqT K H a xs ∧ RpL K H l xs := by
  unfold Rp at h
  exact h
theorem atI_rel {K : PySem.W.Frag} {H : Hp} {xs : List V} {i : Int} (r : RpL K H l xs) (h : atI l i = some d) : ∃ v, atI xs i = some v ∧ Rp K H d v := by
  have hl := rpL_len r
  unfold atI at h ⊢
  rw [hl]
  cases q : ixN l.length i with
  | none =>
    rw [q] at h
    cases h
  | some j =>
    rw [q] at h
    exact rpL_get r h
theorem xe_ixL {i : Int} (ha : XE X ρ a (.lst l)) (hb : XE X ρ b (.int i)) (hi : atI l i = some d) (hs : PlainIx b := by exact fun _ _ => rfl) : XE X ρ (.Subscript a b pos) d :=
  PE.imp (pe_ix ix_list ha hb hs) fun σ H Q ⟨Bv, Bs, Hv, g, k⟩ => ⟨Bv, Bs, Hv, g, fun v1 H1 Hv1 g1 e1 r1 => ⟨Bv, Bs, Hv1, g1, fun v2 H2 Hv2 g2 e2 r2 => by
    obtain ⟨q, xs, rfl, h1, h2⟩ := rp_lst (rp_mono e2.vv r1)
    obtain ⟨v, h3, h4⟩ := atI_rel h2 hi
    exact ⟨q, xs, i, v, rfl, rp_v r2, Evl.ex_l g2.vx.vh h1, h3, k v H2 Hv2 g2 (e1.trans e2) h4⟩⟩⟩
theorem xe_ixT {i : Int} (ha : XE X ρ a (.tup l)) (hb : XE X ρ b (.int i)) (hi : atI l i = some d) (hs : PlainIx b := by exact fun _ _ => rfl) : XE X ρ (.Subscript a b pos) d :=
  PE.imp (pe_ix ix_tup ha hb hs) fun σ H Q ⟨Bv, Bs, Hv, g, k⟩ => ⟨Bv, Bs, Hv, g, fun v1 H1 Hv1 g1 e1 r1 => ⟨Bv, Bs, Hv1, g1, fun v2 H2 Hv2 g2 e2 r2 => by
    obtain ⟨q, xs, rfl, h1, h2⟩ := rp_tup (rp_mono e2.vv r1)
    obtain ⟨v, h3, h4⟩ := atI_rel h2 hi
    exact ⟨q, xs, i, v, rfl, rp_v r2, Evl.ex_t g2.vx.vh h1, h3, k v H2 Hv2 g2 (e1.trans e2) h4⟩⟩⟩
theorem xe_ixS {i : Int} {z : Str} {c : Nat} (ha : XE X ρ a (.str z)) (hb : XE X ρ b (.int i)) (hz : z.length ≤ sizeLine) (hi : atI z.cps.toList i = some c) (hs : PlainIx b := by exact fun _ _ => rfl) : XE X ρ (.Subscript a b pos) (.str ⟨#[c]⟩) :=
  PE.imp (pe_ix ix_str ha hb hs) fun σ H Q ⟨Bv, Bs, Hv, g, k⟩ => ⟨Bv, Bs, Hv, g, fun v1 H1 Hv1 g1 e1 r1 => ⟨Bv, Bs, Hv1, g1, fun v2 H2 Hv2 g2 e2 r2 =>
    ⟨z, i, c, rp_v r1, rp_v r2, hz, hi, k _ H2 Hv2 g2 (e1.trans e2) rp_v'⟩⟩⟩
/-- a built-in's call upon plain values -/
theorem xe_callB {r : List V → Hp → VK → Prop} {id : String} {us : List V} {z : V} (hc : CallR X (.builtin id) r) (hg : Gl X s) (hm : X.mg s = none) (hv : bootBuiltins s = some (.builtin id)) (ha : XA X ρ (e :: es) (us.map D.v)) (hr : ∀ H Q, Q z H → r us H Q)
    (hn : s ≠ "__name__" := by decide) (hdb : (s == ("__debug__" : Str)) = false := by decide) (he : starEach (e :: es) X.env = (false, eval e X.env) :: starEach es X.env := by rfl) (hpl : (backTo pos (starEach es X.env)).any (·.1) = false := by rfl) :
    XE X ρ (.Call (.Name s p) (e :: es) [] pos) (.v z) :=
  PE.imp (pe_callB hc hg hm hv ha hn hdb he hpl) fun σ H Q ⟨Bv, Bs, Hv, g, k⟩ => ⟨Bv, Bs, Hv, g, fun vs H1 Hv1 g1 e1 r1 => by
    rw [rpL_vs r1]
    exact hr _ _ (k z H1 Hv1 g1 e1 rp_v')⟩
theorem xe_callT {r : List V → Hp → VK → Prop} {id : String} {us : List V} {z : V} (hc : CallR X (.type id) r) (hg : Gl X s) (hm : X.mg s = none) (hv : bootBuiltins s = some (.type id)) (ha : XA X ρ (e :: es) (us.map D.v)) (hr : ∀ H Q, Q z H → r us H Q)
    (hn : s ≠ "__name__" := by decide) (hdb : (s == ("__debug__" : Str)) = false := by decide) (he : starEach (e :: es) X.env = (false, eval e X.env) :: starEach es X.env := by rfl) (hpl : (backTo pos (starEach es X.env)).any (·.1) = false := by rfl) :
    XE X ρ (.Call (.Name s p) (e :: es) [] pos) (.v z) :=
  PE.imp (pe_callTy hc hg hm hv ha hn hdb he hpl) fun σ H Q ⟨Bv, Bs, Hv, g, k⟩ => ⟨Bv, Bs, Hv, g, fun vs H1 Hv1 g1 e1 r1 => by
    rw [rpL_vs r1]
    exact hr _ _ (k z H1 Hv1 g1 e1 rp_v')⟩
theorem xe_lenL (hg : Gl X "len") (hm : X.mg "len" = none) (ha : XW X ρ e (.lst l)) (he : starEach (e :: []) X.env = (false, eval e X.env) :: starEach [] X.env := by rfl) (hpl : (backTo pos (starEach [] X.env)).any (·.1) = false := by rfl) : XE X ρ (.Call (.Name "len" p) [e] [] pos) (.int l.length) :=
  PE.imp (pe_callB call_len_seq hg hm PySem.boot_len (xaw_cons ha xaw_nil he) (he := he) (hpl := hpl)) fun σ H Q ⟨Bv, Bs, Hv, g, k⟩ => ⟨Bv, Bs, Hv, g, fun vs H1 Hv1 g1 e1 r1 => by
    obtain ⟨x, r, rfl, h1, h2⟩ := rpL_cons_inv r1
    rw [rpL_nil_inv h2]
    obtain ⟨q, xs, rfl, h3, h4⟩ := rp_lst h1
    refine ⟨q, xs, rfl, .inl h3, ?_⟩
    rw [rpL_len h4]
    exact k _ H1 Hv1 g1 e1 rp_v'⟩
theorem xe_lenT (hg : Gl X "len") (hm : X.mg "len" = none) (ha : XW X ρ e (.tup l)) (he : starEach (e :: []) X.env = (false, eval e X.env) :: starEach [] X.env := by rfl) (hpl : (backTo pos (starEach [] X.env)).any (·.1) = false := by rfl) : XE X ρ (.Call (.Name "len" p) [e] [] pos) (.int l.length) :=
  PE.imp (pe_callB call_len_seq hg hm PySem.boot_len (xaw_cons ha xaw_nil he) (he := he) (hpl := hpl)) fun σ H Q ⟨Bv, Bs, Hv, g, k⟩ => ⟨Bv, Bs, Hv, g, fun vs H1 Hv1 g1 e1 r1 => by
    obtain ⟨x, r, rfl, h1, h2⟩ := rpL_cons_inv r1
    rw [rpL_nil_inv h2]
    obtain ⟨q, xs, rfl, h3, h4⟩ := rp_tup h1
    refine ⟨q, xs, rfl, .inr h3, ?_⟩
    rw [rpL_len h4]
    exact k _ H1 Hv1 g1 e1 rp_v'⟩
theorem xe_lenS {z : Str} (hg : Gl X "len") (hm : X.mg "len" = none) (ha : XE X ρ e (.str z)) (hz : z.length ≤ sizeLine) (he : starEach (e :: []) X.env = (false, eval e X.env) :: starEach [] X.env := by rfl) (hpl : (backTo pos (starEach [] X.env)).any (·.1) = false := by rfl) : XE X ρ (.Call (.Name "len" p) [e] [] pos) (.int z.length) :=
  xe_callB (us := [.str z]) call_len_str hg hm PySem.boot_len (xa_cons ha xa_nil he) (fun _ _ q => ⟨z, rfl, hz, q⟩) (he := he) (hpl := hpl)
theorem xe_max2 {i j : Int} (hc : X.calm = true) (hg : Gl X "max") (hm : X.mg "max" = none) (ha : XA X ρ [a, b] [.int i, .int j]) (he : starEach [a, b] X.env = (false, eval a X.env) :: starEach [b] X.env := by rfl) (hpl : (backTo pos (starEach [b] X.env)).any (·.1) = false := by rfl) : XE X ρ (.Call (.Name "max" p) [a, b] [] pos) (.int (max i j)) :=
  xe_callB (us := [.int i, .int j]) (call_max2 hc) hg hm (by decide +kernel) ha (fun _ _ q => ⟨i, j, rfl, by
    rw [show (if j > i then j else i) = max i j by split <;> omega]
    exact q⟩) (he := he) (hpl := hpl)
theorem xe_min2 {i j : Int} (hc : X.calm = true) (hg : Gl X "min") (hm : X.mg "min" = none) (ha : XA X ρ [a, b] [.int i, .int j]) (he : starEach [a, b] X.env = (false, eval a X.env) :: starEach [b] X.env := by rfl) (hpl : (backTo pos (starEach [b] X.env)).any (·.1) = false := by rfl) : XE X ρ (.Call (.Name "min" p) [a, b] [] pos) (.int (min i j)) :=
  xe_callB (us := [.int i, .int j]) (call_min2 hc) hg hm (by decide +kernel) ha (fun _ _ q => ⟨i, j, rfl, by
    rw [show (if j < i then j else i) = min i j by split <;> omega]
    exact q⟩) (he := he) (hpl := hpl)
theorem xe_abs {i : Int} (hg : Gl X "abs") (hm : X.mg "abs" = none) (ha : XE X ρ e (.int i)) (he : starEach (e :: []) X.env = (false, eval e X.env) :: starEach [] X.env := by rfl) (hpl : (backTo pos (starEach [] X.env)).any (·.1) = false := by rfl) : XE X ρ (.Call (.Name "abs" p) [e] [] pos) (.int (if i < 0 then -i else i)) :=
  xe_callB (us := [.int i]) call_abs hg hm (by decide +kernel) (xa_cons ha xa_nil he) (fun _ _ q => ⟨i, rfl, q⟩) (he := he) (hpl := hpl)
end
end PL
namespace PL
open PySem PySem.Spec L2
open Evl (Ex)

/-! ### statements -/
inductive Out where
  | nx (ρ : List E)
  | ret (d : D)
  | retO (l : List D)
  | retP (a b : E)
  | bk (ρ : List E)
  | ct (ρ : List E)
  | exc (C : Addr) (ns : List Str) (ds : List D) (ρ : List E)
def Fin (K : PySem.W.Frag) (W : WX) (Bv Bs : Hp) (D : Ends) : Out → Prop
  | .nx ρ => ∀ σ H Hv, Sg K Bv Bs Hv H ρ σ → D.nx σ H
  | .ret d => ∀ v H Hv, Vx Bv Bs Hv H → Rp K Hv d v → D.rt v H
  | .retO l => ∀ p xs H Hv, Vx Bv Bs Hv H → Bs p = none → Hv p = none → H p = some (.lst xs) → RpL K Hv l xs → D.rt (.ref p) H
  | .retP a b => ∀ p x y H Hv, Vx Bv Bs Hv H → Hv p = some (.tup [x, y]) → AtN K Bs Hv H a x → AtN K Bs Hv H b y → Sep2 a b x y → D.rt (.ref p) H
  | .bk ρ => ∀ σ H Hv, Sg K Bv Bs Hv H ρ σ → D.bk σ H
  | .ct ρ => ∀ σ H Hv, Sg K Bv Bs Hv H ρ σ → D.ct σ H
  | .exc C ns ds ρ => ∀ od σ H Hv, Sg K Bv Bs Hv H ρ σ → ExAt K Hv ns ds od → W (.ref C) od σ H
def tS (K : PySem.W.Frag) (W : WX) (ρ : List E) (o : Out) : TS := fun D σ H => ∃ Bv Bs Hv, Sg K Bv Bs Hv H ρ σ ∧ Fin K W Bv Bs D o
abbrev XS (X : Cx) (W : WX) (ρ : List E) (st : Stmt) (o : Out) : Prop := PS X st (tS X.K W ρ o)
abbrev XB (X : Cx) (W : WX) (ρ : List E) (sts : List Stmt) (o : Out) : Prop := PSs X sts (tS X.K W ρ o)
/-- an outcome that does not go on -/
def Stop : Out → Prop
  | .nx _ => False
  | _ => True
/-- the ends for what follows -/
theorem Fin.seq {K : PySem.W.Frag} {W : WX} {Bv Bs : Hp} {D : Ends} {n : L2.St → Hp → Prop} {o : Out} (h : Fin K W Bv Bs D o) (s : Stop o) : Fin K W Bv Bs { D with nx := n } o := by
  cases o with
  | nx ρ => exact s.elim
  | _ => exact h

section
variable {X : Cx} {W : WX} {ρ ρ' ρ1 ρ2 : List E} {e a b c tg : Expr} {st : Stmt} {sts rest body : List Stmt} {es : List Expr} {d : D} {ds l : List D} {pos p p' : Pos} {s : Str} {k n : Nat} {o o1 : Out} {B : Bool}

theorem xb_nil : XB X W ρ [] (.nx ρ) := PSs.imp pss_nil fun D σ H ⟨Bv, Bs, Hv, g, k⟩ => k σ H Hv g
theorem xb_cons (h : XS X W ρ st (.nx ρ1)) (t : XB X W ρ1 rest o) : XB X W ρ (st :: rest) o :=
  PSs.imp (pss_cons h t) fun D σ H ⟨Bv, Bs, Hv, g, k⟩ => ⟨Bv, Bs, Hv, g, fun σ' H' Hv' g' => ⟨Bv, Bs, Hv', g', k⟩⟩
theorem xb_stop (h : XS X W ρ st o) (q : Stop o) : XB X W ρ (st :: rest) o :=
  PSs.imp (pss_cons h (u := tNever) pss_never) fun D σ H ⟨Bv, Bs, Hv, g, k⟩ => ⟨Bv, Bs, Hv, g, k.seq q⟩
theorem xb_freeze (i : Nat) (hi : ρ[i]? = some (.own l)) (h : XB X W (ρ.set i (.val (.lst l))) sts o) : XB X W ρ sts o := PSs.imp h fun D σ H ⟨Bv, Bs, Hv, g, k⟩ => by
  obtain ⟨Hv', e, g'⟩ := g.freeze hi
  exact ⟨Bv, Bs, Hv', g', k⟩
theorem XS.wkO (h : XS X W ρ st (.nx ρ1)) (w : WkL ρ1 ρ2) : XS X W ρ st (.nx ρ2) := PS.imp h fun D σ H ⟨Bv, Bs, Hv, g, k⟩ => ⟨Bv, Bs, Hv, g, fun σ' H' Hv' g' => k σ' H' Hv' (g'.wk w)⟩
theorem XB.wkO (h : XB X W ρ sts (.nx ρ1)) (w : WkL ρ1 ρ2) : XB X W ρ sts (.nx ρ2) := PSs.imp h fun D σ H ⟨Bv, Bs, Hv, g, k⟩ => ⟨Bv, Bs, Hv, g, fun σ' H' Hv' g' => k σ' H' Hv' (g'.wk w)⟩
theorem XB.is (h : XB X W ρ sts o) (q : o = o1) : XB X W ρ sts o1 := q ▸ h
theorem XS.is (h : XS X W ρ st o) (q : o = o1) : XS X W ρ st o1 := q ▸ h
theorem xs_ret (h : XE X ρ e d) : XS X W ρ (.Return (some e) pos) (.ret d) := PS.imp (ps_ret h) fun D σ H ⟨Bv, Bs, Hv, g, k⟩ => ⟨Bv, Bs, Hv, g, fun v H' Hv' g' _ r => k v H' Hv' g'.vx r⟩
theorem xs_retO (h : XO X ρ e l) : XS X W ρ (.Return (some e) pos) (.retO l) := PS.imp (ps_ret h) fun D σ H ⟨Bv, Bs, Hv, g, k⟩ => ⟨Bv, Bs, Hv, g, fun p xs H' Hv' g' _ h1 h2 h3 r _ _ => k p xs H' Hv' g'.vx h1 h2 h3 r⟩
/-- the list in a slot of one's own goes out -/
theorem xs_retOwn (i : Nat) (hN : X.N[i]? = some s) (hv : Vis X.env.scope s) (hr : ρ[i]? = some (.own l)) (hd : (s == ("__debug__" : Str)) = false := by decide) (hcd : (s == ("__classdict__" : Str)) = false := by decide) : XS X W ρ (.Return (some (.Name s p)) pos) (.retO l) :=
  PS.imp (ps_ret (pe_var (i := i) hN hv hd hcd)) fun D σ H ⟨Bv, Bs, Hv, g, k⟩ => by
    obtain ⟨q, xs, h1, h2, h3, h4, h5⟩ := g.own hr
    exact ⟨_, h1, k q xs H Hv g.vx h2 h3 h4 h5⟩
theorem xs_set (i : Nat) (hN : X.N.Nodup) (hi : X.N[i]? = some s) (hx : Loc X.env.scope s) (hf : X.fn s = true) (h : XE X ρ e d) (hs : swapsWith e (some (.Name s p')) pos.line X.env = pure false := by rfl) : XS X W ρ (.Assign [.Name s p'] e pos) (.nx (ρ.set i (.val d))) :=
  PS.imp (ps_set hN hi hx h hs (.inl hf)) fun D σ H ⟨Bv, Bs, Hv, g, k⟩ => ⟨Bv, Bs, Hv, g, fun v H' Hv' g' _ r => k _ H' Hv' (g'.set r)⟩
theorem xs_setO (i : Nat) (hN : X.N.Nodup) (hi : X.N[i]? = some s) (hx : Loc X.env.scope s) (hf : X.fn s = true) (h : XO X ρ e l) (hs : swapsWith e (some (.Name s p')) pos.line X.env = pure false := by rfl) : XS X W ρ (.Assign [.Name s p'] e pos) (.nx (ρ.set i (.own l))) :=
  PS.imp (ps_set hN hi hx h hs (.inl hf)) fun D σ H ⟨Bv, Bs, Hv, g, k⟩ => ⟨Bv, Bs, Hv, g, fun p xs H' Hv' g' _ h1 h2 h3 r h5 _ => k _ H' Hv' (g'.setOwn h1 h2 h3 r h5)⟩
/-- an if: one way -/
theorem xs_if (h : XT X ρ c B) (h1 : B = true → XB X W ρ sts o) (h2 : B = false → XB X W ρ rest o) : XS X W ρ (.If c sts rest pos) o := by
  cases B with
  | true => exact PS.imp (ps_if h (h1 rfl) (u := tNever) pss_never) fun D σ H ⟨Bv, Bs, Hv, g, k⟩ => ⟨Bv, Bs, Hv, g, fun H' Hv' g' _ => iteT ⟨Bv, Bs, Hv', g', k⟩⟩
  | false => exact PS.imp (ps_if h (t := tNever) pss_never (h2 rfl)) fun D σ H ⟨Bv, Bs, Hv, g, k⟩ => ⟨Bv, Bs, Hv, g, fun H' Hv' g' _ => iteF ⟨Bv, Bs, Hv', g', k⟩⟩
/-- an if without else that leaves; then the rest -/
theorem xb_if {more : List Stmt} (h : XT X ρ c B) (h1 : B = true → XB X W ρ sts o ∧ Stop o) (h2 : B = false → XB X W ρ more o) : XB X W ρ (.If c sts [] pos :: more) o := by
  cases B with
  | true => exact xb_stop (xs_if h (fun _ => (h1 rfl).1) nofun) (h1 rfl).2
  | false => exact xb_cons (xs_if h nofun fun _ => xb_nil) (h2 rfl)
/-- xs.append(e), xs a list of one's own -/
theorem xs_app (i : Nat) {ap : Pos} {p1 : Pos} (hN : X.N[i]? = some s) (hv : Vis X.env.scope s) (hr : ρ[i]? = some (.own l)) (h : XE X ρ e d) (hl : l.length < 100000)
    (hm : PE X (.Call (.Attribute (.Name s p') "append" ap) [e] [] p1) (tBM X.K "list" rAppend (tVar i) (tCons (tD X.K ρ d) tNil))) (hs : swapsWith (.Call (.Attribute (.Name s p') "append" ap) [e] [] p1) none pos.line X.env = pure false := by rfl) :
    XS X W ρ (.Expr (.Call (.Attribute (.Name s p') "append" ap) [e] [] p1) pos) (.nx (ρ.set i (.own (l ++ [d])))) :=
  PS.imp (ps_expr hm hs) fun D σ H ⟨Bv, Bs, Hv, g, k⟩ => by
    obtain ⟨q, xs, h1, h2, h3, h4, h5⟩ := g.own hr
    refine ⟨.ref q, h1, .inl ⟨rfl, _, .inl (.inl h4)⟩, Bv, Bs, Hv, g, fun v H' Hv' g' e1 r => ?_⟩
    obtain ⟨q', xs', h1', h2', h3', h4', h5'⟩ := g'.own hr
    rw [h1] at h1'
    cases h1'
    refine ⟨q, xs', v, rfl, rfl, h4', Evl.sz_lt (by rw [rpL_len h5']; exact hl), ?_⟩
    exact k _ _ Hv' (g'.upd hr h1 (rpL_app h5' (rpL_cons r rpL_nil)))
theorem xs_exprX {C : Addr} {ns : List Str} (h : XX X W ρ e C ns ds) (hs : swapsWith e none pos.line X.env = pure false := by rfl) : XS X W ρ (.Expr e pos) (.exc C ns ds ρ) := PS.imp (ps_expr h hs) fun D σ H ⟨Bv, Bs, Hv, g, k⟩ => ⟨Bv, Bs, Hv, g, fun od H' Hv' g' x => k od σ H' Hv' g' x⟩
/-! ### targets -/
def tG (K : PySem.W.Frag) (ρ : List E) (d : D) (ρ' : List E) : TG := fun v σ H Q => ∃ Bv Bs Hv, Sg K Bv Bs Hv H ρ σ ∧ Rp K Hv d v ∧ ∀ σ', Sg K Bv Bs Hv H ρ' σ' → Q σ' H
def tGs (K : PySem.W.Frag) (ρ : List E) (ds : List D) (ρ' : List E) : TGs := fun vs σ H Q => ∃ Bv Bs Hv, Sg K Bv Bs Hv H ρ σ ∧ RpL K Hv ds vs ∧ ∀ σ', Sg K Bv Bs Hv H ρ' σ' → Q σ' H
abbrev XG (X : Cx) (ρ : List E) (tg : Expr) (d : D) (ρ' : List E) : Prop := PG X tg (tG X.K ρ d ρ')
abbrev XGs (X : Cx) (ρ : List E) (tgs : List Expr) (ds : List D) (ρ' : List E) : Prop := PGs X tgs (tGs X.K ρ ds ρ')
theorem PGs.imp {tgs : List Expr} {t t' : TGs} (h : PGs X tgs t) (i : ∀ v σ H Q, t' v σ H Q → t v σ H Q) : PGs X tgs t' := ⟨fun pins s σ H v u Q I r w => h.run pins s σ H v u Q I r (i v σ H Q w)⟩
theorem xg_name (i : Nat) (hN : X.N.Nodup) (hi : X.N[i]? = some s) (hx : Loc X.env.scope s) (hf : X.fn s = true ∨ X.env.scope.names.lookup s = some .local) : XG X ρ (.Name s p) d (ρ.set i (.val d)) :=
  PG.imp (pg_name (i := i) hN hi hx hf) fun v σ H Q ⟨Bv, Bs, Hv, g, r, k⟩ => k _ (g.set r)
theorem xgs_nil : XGs X ρ [] [] ρ := PGs.imp pgs_nil fun v σ H Q ⟨Bv, Bs, Hv, g, r, k⟩ => ⟨rpL_nil_inv r, k _ g⟩
theorem xgs_cons {tgs : List Expr} (h : XG X ρ tg d ρ1) (t : XGs X ρ1 tgs ds ρ2) (hs : (assignEach (tg :: tgs) X.env).map (·.2) = assign tg X.env :: (assignEach tgs X.env).map (·.2) := by rfl) : XGs X ρ (tg :: tgs) (d :: ds) ρ2 :=
  PGs.imp (pgs_cons h t hs) fun v σ H Q ⟨Bv, Bs, Hv, g, r, k⟩ => by
    obtain ⟨x, r', rfl, h1, h2⟩ := rpL_cons_inv r
    exact ⟨x, r', rfl, Bv, Bs, Hv, g, h1, fun σ' g' => ⟨Bv, Bs, Hv, g', h2, k⟩⟩
theorem xg_tup {tgs : List Expr} {m : Nat} (hc : X.calm = true) (h : XGs X ρ tgs ds ρ') (hl : ds.length = n) (hn : (assignEach tgs X.env).length = n := by rfl) (hst : (assignEach tgs X.env).findIdx? (·.1) = none := by rfl) : XG X ρ (.Tuple tgs m p) (.tup ds) ρ' :=
  PG.imp (pg_tup hc h hn hst) fun v σ H Q ⟨Bv, Bs, Hv, g, r, k⟩ => by
    obtain ⟨q, xs, rfl, h1, h2⟩ := rp_tup r
    exact ⟨q, xs, rfl, Evl.ex_t g.vx.vh h1, by rw [rpL_len h2, hl], Bv, Bs, Hv, g, h2, k⟩
theorem xs_asg (h : XE X ρ e d) (hg : XG X ρ tg d ρ') (hs : swapsWithSole [tg] e pos.line X.env = pure false := by rfl) (hw : swappedStores [tg] e X.env = pure none := by rfl) (h1 : (assignEach [tg] X.env).map (·.2) = [assign tg X.env] := by rfl) : XS X W ρ (.Assign [tg] e pos) (.nx ρ') :=
  PS.imp (ps_asg h hg hs hw h1) fun D σ H ⟨Bv, Bs, Hv, g, k⟩ => ⟨Bv, Bs, Hv, g, fun v H' Hv' g' _ r => ⟨Bv, Bs, Hv', g', r, fun σ' g'' => k σ' H' Hv' g''⟩⟩
/-! ### while -/
inductive WhD (X : Cx) (W : WX) (c : Expr) (body : List Stmt) : Nat → List E → Out → Prop where
  | done {ρ : List E} (n : Nat) : XT X ρ c false → WhD X W c body n ρ (.nx ρ)
  | next {ρ ρ1 : List E} {o o1 : Out} {n : Nat} : XT X ρ c true → XB X W ρ body o1 → (o1 = .nx ρ1 ∨ o1 = .ct ρ1) → WhD X W c body n ρ1 o → WhD X W c body (n + 1) ρ o
  | brk {ρ ρ1 : List E} (n : Nat) : XT X ρ c true → XB X W ρ body (.bk ρ1) → WhD X W c body n ρ (.nx ρ1)
  | out {ρ : List E} {o : Out} (n : Nat) : XT X ρ c true → XB X W ρ body o → Stop o → (∀ ρ, o ≠ .bk ρ) → (∀ ρ, o ≠ .ct ρ) → WhD X W c body n ρ o
  | wk {ρ ρ1 : List E} {o : Out} {n : Nat} : WkL ρ ρ1 → WhD X W c body n ρ1 o → WhD X W c body n ρ o
theorem Fin.loop {K : PySem.W.Frag} {Bv Bs : Hp} {D : Ends} {N M : L2.St → Hp → Prop} {bk : L2.St → Hp → Prop} (h : Fin K W Bv Bs D o) (s : Stop o) (h1 : ∀ ρ, o ≠ .bk ρ) (h2 : ∀ ρ, o ≠ .ct ρ) : Fin K W Bv Bs { D with nx := N, ct := M, bk := bk } o := by
  cases o with
  | nx ρ => exact s.elim
  | bk ρ => exact (h1 ρ rfl).elim
  | ct ρ => exact (h2 ρ rfl).elim
  | _ => exact h
theorem ps_any (st : List Stmt) : PSs X st (fun D σ H => ∃ t : TS, PSs X st t ∧ t D σ H) := ⟨fun pins s σ H D I ⟨t, h, w⟩ => h.run pins s σ H D I w⟩
theorem pg_any (c : Expr) : PG X c (fun v σ H Q => ∃ t : TG, PG X c t ∧ t v σ H Q) := ⟨fun pins s σ H v u Q I r ⟨t, h, w⟩ => h.run pins s σ H v u Q I r w⟩
/-! ### for -/
/-- what is walked: its items as data -/
structure ItD (K : PySem.W.Frag) (Hv0 : Hp) (J : It) (ds : List D) : Prop where
  w : ∃ G Y, Walk J ds.length G Y ∧ (∀ H, Ex Hv0 H → G H) ∧ ∀ i H x H' Hv, Y i H x H' → Ex Hv0 Hv → Ex Hv H → i < ds.length → ∃ Hv' d, ds[i]? = some d ∧ Vx Hv H Hv' H' ∧ Rp K Hv' d x
def tI (K : PySem.W.Frag) (ρ : List E) (ds : List D) : TI := fun σ H R => ∃ Bv Bs Hv, Sg K Bv Bs Hv H ρ σ ∧ ∀ J H' Hv', Sg K Bv Bs Hv' H' ρ σ → Vx Hv H Hv' H' → ItD K Hv' J ds → R J H'
abbrev XI (X : Cx) (ρ : List E) (tg it : Expr) (ds : List D) : Prop := PI X tg it (tI X.K ρ ds)
theorem PI.imp {tg it : Expr} {t t' : TI} (h : PI X tg it t) (i : ∀ σ H R, t' σ H R → t σ H R) : PI X tg it t' := ⟨fun pins s σ H R I w => h.run pins s σ H R I (i σ H R w)⟩
inductive FoD (X : Cx) (W : WX) (tg : Expr) (body : List Stmt) : List D → List E → Out → Prop where
  | nil {ρ : List E} : FoD X W tg body [] ρ (.nx ρ)
  | next {ρ ρ1 ρ2 : List E} {o o1 : Out} {d : D} {ds : List D} : XG X ρ tg d ρ1 → XB X W ρ1 body o1 → (o1 = .nx ρ2 ∨ o1 = .ct ρ2) → FoD X W tg body ds ρ2 o → FoD X W tg body (d :: ds) ρ o
  | brk {ρ ρ1 ρ2 : List E} {d : D} {ds : List D} : XG X ρ tg d ρ1 → XB X W ρ1 body (.bk ρ2) → FoD X W tg body (d :: ds) ρ (.nx ρ2)
  | out {ρ ρ1 : List E} {o : Out} {d : D} {ds : List D} : XG X ρ tg d ρ1 → XB X W ρ1 body o → Stop o → (∀ ρ, o ≠ .bk ρ) → (∀ ρ, o ≠ .ct ρ) → FoD X W tg body (d :: ds) ρ o
  | wk {ρ ρ1 : List E} {o : Out} {ds : List D} : WkL ρ ρ1 → FoD X W tg body ds ρ1 o → FoD X W tg body ds ρ o
theorem FoD.end_ {Bv Bs : Hp} {D : Ends} {σ : L2.St} {H Hv : Hp} (h : FoD X W tg body ds ρ o) (e : ds = []) (g : Sg X.K Bv Bs Hv H ρ σ) (k : Fin X.K W Bv Bs D o) : D.nx σ H := by
  induction h with
  | nil => exact k _ _ _ g
  | wk w _ ih => exact ih e (g.wk w) k
  | next => cases e
  | brk => cases e
  | out => cases e
/-- the view of a later place as the start -/
structure Rb (Bv Bs Hv : Hp) : Prop where
  vv : Ex Bv Hv
  fr : ∀ a o, Hv a = some o → Bv a = some o ∨ Bs a = none
theorem Rb.of {K : PySem.W.Frag} {Bv Bs Hv H : Hp} {σ : L2.St} (g : Sg K Bv Bs Hv H ρ σ) : Rb Bv Bs Hv := ⟨g.vx.vv, g.vx.fr⟩
theorem Vx.unbase {Bv Bs Hv1 Hv H : Hp} (r : Rb Bv Bs Hv1) (x : Vx Hv1 Bs Hv H) : Vx Bv Bs Hv H := ⟨r.vv.trans x.vv, x.hh, x.vh, fun a o e => by
  rcases x.fr a o e with h | h
  · exact r.fr a o h
  · exact .inr h⟩
theorem Sg.unbase {K : PySem.W.Frag} {Bv Bs Hv1 Hv H : Hp} {σ : L2.St} (r : Rb Bv Bs Hv1) (g : Sg K Hv1 Bs Hv H ρ σ) : Sg K Bv Bs Hv H ρ σ := ⟨g.vx.unbase r, g.len, g.at_, g.sep⟩
theorem Sg.rebase {K : PySem.W.Frag} {Bv Bs Hv1 Hv H : Hp} {σ : L2.St} (r : Rb Bv Bs Hv1) (e : Ex Hv1 Hv) (g : Sg K Bv Bs Hv H ρ σ) : Sg K Hv1 Bs Hv H ρ σ := ⟨⟨e, g.vx.hh, g.vx.vh, fun a o q => by
  rcases g.vx.fr a o q with h | h
  · exact .inl (r.vv a o h)
  · exact .inr h⟩, g.len, g.at_, g.sep⟩
theorem Fin.rebase {K : PySem.W.Frag} {Bv Bs Hv1 : Hp} {D : Ends} (r : Rb Bv Bs Hv1) (h : Fin K W Bv Bs D o) : Fin K W Hv1 Bs D o := by
  cases o with
  | nx ρ => exact fun σ H Hv g => h σ H Hv (g.unbase r)
  | bk ρ => exact fun σ H Hv g => h σ H Hv (g.unbase r)
  | ct ρ => exact fun σ H Hv g => h σ H Hv (g.unbase r)
  | ret d => exact fun v H Hv x => h v H Hv (x.unbase r)
  | retO l => exact fun p xs H Hv x => h p xs H Hv (x.unbase r)
  | retP a b => exact fun p x y H Hv v => h p x y H Hv (v.unbase r)
  | exc C ns ds ρ => exact fun od σ H Hv g => h od σ H Hv (g.unbase r)
theorem fo_turn {Bv Bs : Hp} {D : Ends} {σ : L2.St} {H Hv : Hp} {v : V} {m : List PL.D} (f : FoD X W tg body m ρ o) (hm : m = d :: ds) (g : Sg X.K Bv Bs Hv H ρ σ) (r : Rp X.K Hv d v) (k : Fin X.K W Bv Bs D o) {N : L2.St → Hp → Prop}
    (hN : ∀ ρ σ H Hv, Sg X.K Bv Bs Hv H ρ σ → FoD X W tg body ds ρ o → N σ H) :
    ∃ t : TG, PG X tg t ∧ t v σ H fun σ2 H2 => ∃ u : TS, PSs X body u ∧ u { D with nx := N, ct := N, bk := D.nx } σ2 H2 := by
  induction f with
  | nil => cases hm
  | wk w _ ih => exact ih hm (g.wk w) k hN
  | next hg hb ho hn _ =>
    cases hm
    refine ⟨_, hg, Bv, Bs, Hv, g, r, fun σ2 g2 => ⟨_, hb, Bv, Bs, Hv, g2, ?_⟩⟩
    rcases ho with rfl | rfl
    · exact fun σ3 H3 Hv3 g3 => hN _ σ3 H3 Hv3 g3 hn
    · exact fun σ3 H3 Hv3 g3 => hN _ σ3 H3 Hv3 g3 hn
  | brk hg hb =>
    cases hm
    exact ⟨_, hg, Bv, Bs, Hv, g, r, fun σ2 g2 => ⟨_, hb, Bv, Bs, Hv, g2, k⟩⟩
  | out hg hb hs h1 h2 =>
    cases hm
    exact ⟨_, hg, Bv, Bs, Hv, g, r, fun σ2 g2 => ⟨_, hb, Bv, Bs, Hv, g2, k.loop hs h1 h2⟩⟩
theorem xs_for {it : Expr} (hp : PassesOwn (model X.prog X.w) X.A X.env X.xe) (hc : X.calm = true) (hi : XI X ρ tg it ds) (h : FoD X W tg body ds ρ o) (hs : ∀ x, foldedSetIterable it X.env x = pure x := by intro _; rfl) : XS X W ρ (.For tg it body [] pos) o :=
  PS.imp (ps_for hp hc hi (pg_any tg) (ps_any body) hs) fun D σ H ⟨Bv, Bs, Hv, g, k⟩ => ⟨Bv, Bs, Hv, g, fun J H1 Hv1 g1 e1 hJ => by
    obtain ⟨G, Y, w, hG, hY⟩ := hJ.w
    have rb : Rb Bv Bs Hv1 := Rb.of g1
    have k1 := k.rebase rb
    refine for_it w (g := fun v σ H Q => ∃ t : TG, PG X tg t ∧ t v σ H Q) (tb := fun D σ H => ∃ t : TS, PSs X body t ∧ t D σ H) (fun i σ H => ∃ Hv ρ, Sg X.K Hv1 Bs Hv H ρ σ ∧ FoD X W tg body (ds.drop i) ρ o) ⟨Hv1, ρ, g1.rebase rb (Ex.refl _), h⟩ (fun i σ H _ ⟨Hv, ρ, g, _⟩ => hG H (g.vx.vv.trans g.vx.vh)) (fun i x σ H H' hi ⟨Hv, ρ, g, f⟩ y => ?_) (fun σ H ⟨Hv, ρ, g, f⟩ => f.end_ (List.drop_eq_nil_of_le (Nat.le_refl _)) g k1)
    obtain ⟨Hv', d, hd, vx, r⟩ := hY i H x H' Hv y g.vx.vv g.vx.vh hi
    have hdr : ds.drop i = d :: ds.drop (i + 1) := by
      obtain ⟨hlt, q⟩ := List.getElem?_eq_some_iff.mp hd
      rw [List.drop_eq_getElem_cons hlt, q]
    exact fo_turn f hdr (g.go vx) r k1 fun ρ σ H Hv g f => ⟨Hv, ρ, g, f⟩⟩
end
end PL
namespace PL
open PySem PySem.Spec L2
open Evl (Ex)

section
variable {X : Cx} {W : WX} {ρ ρ' ρ1 ρ2 : List E} {e a b c tg : Expr} {es : List Expr} {d : D} {ds l : List D} {pos p p' : Pos} {s : Str} {k n : Nat} {o o1 : Out} {B : Bool}

/-- xs.append(e), xs a list of one's own -/
theorem xs_push (i : Nat) {ap p1 : Pos} (hN : X.N[i]? = some s) (hv : Vis X.env.scope s) (hr : ρ[i]? = some (.own l)) (h : XE X ρ e d) (hl : l.length < 100000) (hd : (s == ("__debug__" : Str)) = false := by decide) (hcd : (s == ("__classdict__" : Str)) = false := by decide)
    (hbase : attributeBase (.Name s p') "append" X.env (eval (.Name s p') X.env) = eval (.Name s p') X.env := by rfl)
    (hfew : ((backTo p1 (starEach (e :: []) X.env)).all (fun x => !x.1) && (backToKw p1 (keywordEach [] X.env)).all (fun x => x.1.isSome)
      && decide ((e :: ([] : List Expr)).length + ([] : List Keyword).length + (if ([] : List Keyword).isEmpty then 0 else 1) < 30)) = true := by rfl)
    (hline : (ap.endLine == p1.line) = true := by rfl) (hs' : starEach (e :: []) X.env = (false, eval e X.env) :: starEach [] X.env := by rfl) (hplain : (backTo p1 (starEach [] X.env)).any (·.1) = false := by rfl)
    (hs : swapsWith (.Call (.Attribute (.Name s p') "append" ap) [e] [] p1) none pos.line X.env = pure false := by rfl) :
    XS X W ρ (.Expr (.Call (.Attribute (.Name s p') "append" ap) [e] [] p1) pos) (.nx (ρ.set i (.own (l ++ [d])))) :=
  xs_app i hN hv hr h hl (pe_bm PySem.F.plainAttrs_list PySem.F.slot_list_append PySem.F.type_list_append mt_append (pe_var (i := i) hN hv hd hcd) (pa_cons h pa_nil hs') hbase hfew hline hs' hplain) hs

/-! ### what is walked -/
theorem xi_list {it : Expr} (h : XE X ρ it (.lst ds)) : XI X ρ tg it ds :=
  PI.imp (pi_list h) fun σ H R ⟨Bv, Bs, Hv, g, k⟩ => ⟨Bv, Bs, Hv, g, fun v H1 Hv1 g1 e1 r1 => by
    obtain ⟨q, xs, rfl, h1, h2⟩ := rp_lst r1
    have hl := rpL_len h2
    refine ⟨q, rfl, ⟨xs, Evl.ex_l g1.vx.vh h1⟩, k _ H1 Hv1 g1 e1 ⟨fun H => SqL X.K H q xs, YAt xs, by rw [← hl]; exact walk_list, fun H e => Evl.ex_l e h1, fun i H x H' Hv y e e' hi => ?_⟩⟩
    obtain ⟨rfl, hx⟩ := y
    obtain ⟨d, hd, r⟩ := rpL_get' h2 hx
    exact ⟨Hv, d, hd, Vx.refl e', rp_mono e r⟩⟩
/-- the ints lo, lo + 1, .. -/
def rgD (lo : Int) (n : Nat) : List D := (List.range n).map fun k => D.int (lo + (k : Nat))
theorem rgD_len {lo : Int} {n : Nat} : (rgD lo n).length = n := by
  unfold rgD
  rw [List.length_map, List.length_range]
theorem rgD_get {lo : Int} {n i : Nat} (h : i < n) : (rgD lo n)[i]? = some (D.int (lo + (i : Nat))) := by
  unfold rgD
  rw [List.getElem?_map, List.getElem?_range h]
  rfl
theorem it_range {K : PySem.W.Frag} {Hv : Hp} {lo : Int} {n : Nat} : ItD K Hv (Itr lo n) (rgD lo n) :=
  ⟨fun _ => True, YFn fun i => .int (lo + i), by rw [rgD_len]; exact walk_range, fun _ _ => trivial, fun i H x H' Hv y e e' hi => by
    obtain ⟨rfl, rfl⟩ := y
    rw [rgD_len] at hi
    exact ⟨Hv, _, rgD_get hi, Vx.refl e', rp_v'⟩⟩
theorem xi_range1 {j : Int} (hg : Gl X "range") (hm : X.mg "range" = none) (ha : XE X ρ a (.int j)) (hj : -(2 ^ 62) ≤ j ∧ j < 2 ^ 62) (he : starEach [a] X.env = [(false, eval a X.env)] := by rfl) : XI X ρ tg (.Call (.Name "range" p) [a] [] pos) (rgD 0 j.toNat) :=
  PI.imp (pi_range1 hg hm (xa_cons ha xa_nil he) he) fun σ H R ⟨Bv, Bs, Hv, g, k⟩ => ⟨Bv, Bs, Hv, g, fun vs H1 Hv1 g1 e1 r1 => by
    obtain ⟨x, r, rfl, h1, h2⟩ := rpL_cons_inv r1
    rw [rpL_nil_inv h2, rp_v h1]
    exact ⟨j, rfl, hj.1, hj.2, k _ H1 Hv1 g1 e1 it_range⟩⟩
theorem xi_range2 {i j : Int} (hg : Gl X "range") (hm : X.mg "range" = none) (ha : XE X ρ a (.int i)) (hb : XE X ρ b (.int j)) (hi : -(2 ^ 62) ≤ i ∧ i < 2 ^ 62 ∧ -(2 ^ 62) ≤ j ∧ j < 2 ^ 62)
    (hs : starEach [a, b] X.env = [(false, eval a X.env), (false, eval b X.env)] := by rfl) (hs2 : starEach [b] X.env = [(false, eval b X.env)] := by rfl) : XI X ρ tg (.Call (.Name "range" p) [a, b] [] pos) (rgD i (j - i).toNat) :=
  PI.imp (pi_range2 hg hm (xa_cons ha (xa_cons hb xa_nil hs2) (hs.trans (by rw [hs2]))) hs hs2) fun σ H R ⟨Bv, Bs, Hv, g, k⟩ => ⟨Bv, Bs, Hv, g, fun vs H1 Hv1 g1 e1 r1 => by
    obtain ⟨x, r, rfl, h1, h2⟩ := rpL_cons_inv r1
    obtain ⟨y, r', rfl, h3, h4⟩ := rpL_cons_inv h2
    rw [rpL_nil_inv h4, rp_v h1, rp_v h3]
    exact ⟨i, j, rfl, hi, k _ H1 Hv1 g1 e1 it_range⟩⟩
/-- the signs of a text, each a text -/
def sgD (z : Str) : List D := z.cps.toList.map fun c => D.str ⟨#[c]⟩
theorem xi_str {it : Expr} {z : Str} (h : XE X ρ it (.str z)) : XI X ρ tg it (sgD z) :=
  PI.imp (pi_str h) fun σ H R ⟨Bv, Bs, Hv, g, k⟩ => ⟨Bv, Bs, Hv, g, fun v H1 Hv1 g1 e1 r1 => by
    refine ⟨z, rp_v r1, k _ H1 Hv1 g1 e1 ⟨fun _ => True, fun i H v H' => H' = H ∧ ∃ c, z.cps[i]? = some c ∧ v = .str ⟨#[c]⟩, ?_, fun H e => trivial, fun i H x H' Hv y e e' hi => ?_⟩⟩
    · rw [show (sgD z).length = z.cps.size by unfold sgD; rw [List.length_map, Array.length_toList]]
      exact walk_str
    · obtain ⟨rfl, c, hc, rfl⟩ := y
      refine ⟨Hv, .str ⟨#[c]⟩, ?_, Vx.refl e', rp_v'⟩
      unfold sgD
      rw [List.getElem?_map, Array.getElem?_toList, hc]
      rfl⟩
/-- pairs made on the way -/
theorem pair_new {K : PySem.W.Frag} {Hv H : Hp} {T : Addr} {x y : V} {d1 d2 : D} (e : Ex Hv H) (hT : H T = none) (r1 : Rp K Hv d1 x) (r2 : Rp K Hv d2 y) : ∃ Hv', Vx Hv H Hv' (upd H T (.tup [x, y])) ∧ Rp K Hv' (.tup [d1, d2]) (.ref T) := by
  have n1 : Hv T = none := Evl.fresh_back e hT
  refine ⟨upd Hv T (.tup [x, y]), ⟨Ex.new n1, Ex.new hT, fun b u q => ?_, fun b u q => ?_⟩, ?_⟩
  · by_cases z : b = T
    · subst z
      rw [upd_same] at q ⊢
      exact q
    · rw [upd_ne z] at q ⊢
      exact e b u q
  · by_cases z : b = T
    · subst z
      exact .inr hT
    · rw [upd_ne z] at q
      exact .inl q
  · unfold Rp
    exact ⟨T, _, rfl, .inl (.inl upd_same), rpL_cons (rp_mono (Ex.new n1) r1) (rpL_cons (rp_mono (Ex.new n1) r2) rpL_nil)⟩
def enL : Nat → List D → List D
  | _, [] => []
  | i, d :: ds => D.tup [.int (i : Nat), d] :: enL (i + 1) ds
theorem enL_len : ∀ (i : Nat) (ds : List D), (enL i ds).length = ds.length
  | _, [] => rfl
  | i, d :: ds => by
    unfold enL
    rw [List.length_cons, List.length_cons, enL_len]
theorem enL_get : ∀ (j i : Nat) (ds : List D) (d : D), ds[i]? = some d → (enL j ds)[i]? = some (.tup [.int ((j + i : Nat)), d])
  | j, 0, d' :: ds, d, h => by
    simp at h
    subst h
    rfl
  | j, i + 1, d' :: ds, d, h => by
    have := enL_get (j + 1) i ds d (by simpa using h)
    unfold enL
    rw [List.getElem?_cons_succ, this]
    rw [show j + 1 + i = j + (i + 1) by omega]
  | j, i, [], d, h => by simp at h
theorem xi_enum {elts : List Expr} {kk : Nat} {tpos : Pos} (hg : Gl X "enumerate") (hm : X.mg "enumerate" = none) (ha : XE X ρ e (.lst ds)) (hs : starEach [e] X.env = [(false, eval e X.env)] := by rfl) : XI X ρ (.Tuple elts kk tpos) (.Call (.Name "enumerate" p) [e] [] pos) (enL 0 ds) :=
  PI.imp (pi_enum hg hm (xa_cons ha xa_nil hs) hs) fun σ H R ⟨Bv, Bs, Hv, g, k⟩ => ⟨Bv, Bs, Hv, g, fun vs H1 Hv1 g1 e1 r1 => by
    obtain ⟨x, r, rfl, h1, h2⟩ := rpL_cons_inv r1
    rw [rpL_nil_inv h2]
    obtain ⟨q, xs, rfl, h3, h4⟩ := rp_lst h1
    have hl := rpL_len h4
    refine ⟨q, xs, rfl, Evl.ex_l g1.vx.vh h3, k _ H1 Hv1 g1 e1 ⟨fun H => SqL X.K H q xs, _, by rw [enL_len, ← hl]; exact walk_enum, fun H e => Evl.ex_l e h3, fun i H x H' Hv y e e' hi => ?_⟩⟩
    obtain ⟨T, x, z, rfl, hT, rfl, hx, hz⟩ := y
    cases hx
    obtain ⟨d, hd, r⟩ := rpL_get' h4 hz
    obtain ⟨Hv', vx, rr⟩ := pair_new (K := X.K) e' hT (d1 := .int (i : Nat)) rp_v' (rp_mono e r)
    refine ⟨Hv', _, ?_, vx, rr⟩
    rw [enL_get 0 i ds d hd, Nat.zero_add]⟩
/-- lo, lo + c, .. -/
def rcD (lo c : Int) (n : Nat) : List D := (List.range n).map fun k => D.int (lo + (k : Nat) * c)
/-! ### list comprehensions -/
def wipeE (ρ : List E) : List Nat → List E
  | [] => ρ
  | v :: vs => (wipeE ρ vs).set v .no
theorem Sg.no {K : PySem.W.Frag} {Bv Bs Hv H : Hp} {σ : L2.St} (g : Sg K Bv Bs Hv H ρ σ) (i : Nat) : Sg K Bv Bs Hv H (ρ.set i .no) (σ.set i none) := by
  refine ⟨g.vx, by rw [List.length_set, List.length_set, g.len], fun j e hj => ?_, fun j k l l' q h1 h2 h3 h4 => ?_⟩
  · by_cases hij : i = j
    · subst hij
      have hl : i < ρ.length := by
        have := (List.getElem?_eq_some_iff.mp hj).1
        rwa [List.length_set] at this
      rw [List.getElem?_set_self hl] at hj
      cases hj
      exact ⟨none, List.getElem?_set_self (by rw [g.len]; exact hl), trivial⟩
    · rw [List.getElem?_set_ne hij] at hj
      rw [List.getElem?_set_ne hij]
      exact g.at_ j e hj
  · have key : ∀ {j : Nat} {l : List D}, (ρ.set i .no)[j]? = some (.own l) → i ≠ j := fun {j l} h z => by
      subst z
      have hl : i < ρ.length := by
        have := (List.getElem?_eq_some_iff.mp h).1
        rwa [List.length_set] at this
      rw [List.getElem?_set_self hl] at h
      cases h
    have n1 := key h1
    have n2 := key h2
    rw [List.getElem?_set_ne n1] at h1 h3
    rw [List.getElem?_set_ne n2] at h2 h4
    exact g.sep j k l l' q h1 h2 h3 h4
theorem Sg.wipe {K : PySem.W.Frag} {Bv Bs Hv H : Hp} {σ : L2.St} (g : Sg K Bv Bs Hv H ρ σ) : ∀ vs : List Nat, Sg K Bv Bs Hv H (wipeE ρ vs) (L2.wipe σ vs)
  | [] => g
  | v :: vs => (g.wipe vs).no v
theorem wipe_set {σ : L2.St} {i : Nat} {x : Option V} : ∀ {vs : List Nat}, i ∈ vs → L2.wipe (σ.set i x) vs = L2.wipe σ vs
  | v :: vs, h => by
    unfold L2.wipe
    by_cases hv : i ∈ vs
    · rw [wipe_set hv]
    · have e : i = v := by
        rcases List.mem_cons.mp h with h | h
        · exact h
        · exact absurd h hv
      subst e
      clear h
      have go : ∀ (us : List Nat), i ∉ us → L2.wipe (σ.set i x) us = (L2.wipe σ us).set i x := fun us => by
        induction us with
        | nil => intro _; rfl
        | cons u us ih =>
          intro hn
          have h1 : i ≠ u := fun z => hn (z ▸ List.mem_cons_self)
          have h2 : i ∉ us := fun z => hn (List.mem_cons_of_mem _ z)
          unfold L2.wipe
          rw [ih h2, List.set_comm _ _ h1]
      rw [go vs hv, List.set_set]
theorem wipe_wipe {σ : L2.St} : ∀ {vs us : List Nat}, (∀ v ∈ us, v ∈ vs) → L2.wipe (L2.wipe σ us) vs = L2.wipe σ vs
  | vs, [], _ => rfl
  | vs, u :: us, h => by
    show L2.wipe ((L2.wipe σ us).set u none) vs = L2.wipe σ vs
    rw [wipe_set (h u List.mem_cons_self), wipe_wipe fun v hv => h v (List.mem_cons_of_mem _ hv)]
/-- a target within a comprehension: own slots alone change -/
def tGw (K : PySem.W.Frag) (vs : List Nat) (ρ : List E) (d : D) (ρ' : List E) : TG := fun v σ H Q => ∃ Bv Bs Hv, Sg K Bv Bs Hv H ρ σ ∧ Rp K Hv d v ∧ ∀ σ', Sg K Bv Bs Hv H ρ' σ' → L2.wipe σ' vs = L2.wipe σ vs → Q σ' H
def tGws (K : PySem.W.Frag) (vs : List Nat) (ρ : List E) (ds : List D) (ρ' : List E) : TGs := fun us σ H Q => ∃ Bv Bs Hv, Sg K Bv Bs Hv H ρ σ ∧ RpL K Hv ds us ∧ ∀ σ', Sg K Bv Bs Hv H ρ' σ' → L2.wipe σ' vs = L2.wipe σ vs → Q σ' H
abbrev XGw (X : Cx) (vs : List Nat) (ρ : List E) (tg : Expr) (d : D) (ρ' : List E) : Prop := PG X tg (tGw X.K vs ρ d ρ')
abbrev XGws (X : Cx) (vs : List Nat) (ρ : List E) (tgs : List Expr) (ds : List D) (ρ' : List E) : Prop := PGs X tgs (tGws X.K vs ρ ds ρ')
theorem xgw_name {vs : List Nat} (i : Nat) (hN : X.N.Nodup) (hi : X.N[i]? = some s) (hx : Loc X.env.scope s) (hf : X.fn s = true ∨ X.env.scope.names.lookup s = some .local) (hv : i ∈ vs := by decide) : XGw X vs ρ (.Name s p) d (ρ.set i (.val d)) :=
  PG.imp (pg_name (i := i) hN hi hx hf) fun v σ H Q ⟨Bv, Bs, Hv, g, r, k⟩ => k _ (g.set r) (wipe_set hv)
/-- a clause's tests -/
abbrev XTs (X : Cx) (ρ : List E) (ifs : List Expr) (b : Bool) : Prop := PTs X ifs (tBl X.K ρ b)
theorem PTs.imp {ifs : List Expr} {t t' : TT} (h : PTs X ifs t) (i : ∀ σ H Q, t' σ H Q → t σ H Q) : PTs X ifs t' := ⟨fun pins s σ H Q I w => h.run pins s σ H Q I (i σ H Q w)⟩
theorem xts_nil : XTs X ρ [] true := PTs.imp pts_nil fun σ H Q ⟨Bv, Bs, Hv, g, k⟩ => k H Hv g (Vx.refl g.vx.vh)
theorem xts_one (h : XT X ρ c B) : XTs X ρ [c] B := pts_one h
/-- the blocks of a comprehension -/
def Blk (X : Cx) (scope : Scope) (P : Cx → Prop) : Prop := ∀ (s : Shared) (H : Hp) (C : Addr) (cl : List (Str × Addr)) (fp : List Addr), P (X.blk s H scope (compEnvC scope cl C X.env) fp)
inductive LcD (X : Cx) (scope : Scope) (vs : List Nat) (tg : Expr) (ifs : List Expr) (elt : Expr) (ρ : List E) : List D → List D → Prop where
  | nil : LcD X scope vs tg ifs elt ρ [] []
  | keep {d r : D} {ρ1 : List E} {ds rs : List D} : Blk X scope (fun Y => XGw Y vs ρ tg d ρ1) → Blk X scope (fun Y => XTs Y ρ1 ifs true) → Blk X scope (fun Y => XE Y ρ1 elt r) → LcD X scope vs tg ifs elt ρ ds rs → LcD X scope vs tg ifs elt ρ (d :: ds) (r :: rs)
  | skip {d : D} {ρ1 : List E} {ds rs : List D} : Blk X scope (fun Y => XGw Y vs ρ tg d ρ1) → Blk X scope (fun Y => XTs Y ρ1 ifs false) → LcD X scope vs tg ifs elt ρ ds rs → LcD X scope vs tg ifs elt ρ (d :: ds) rs
abbrev gB (X : Cx) (scope : Scope) (tg : Expr) : TG := fun v σ H Q => ∃ t : TG, Blk X scope (fun Y => PG Y tg t) ∧ t v σ H Q
abbrev tB2 (X : Cx) (scope : Scope) (ifs : List Expr) : TT := fun σ H Q => ∃ t : TT, Blk X scope (fun Y => PTs Y ifs t) ∧ t σ H Q
abbrev eB (X : Cx) (scope : Scope) (elt : Expr) : TE := fun σ H Q => ∃ t : TE, Blk X scope (fun Y => PE Y elt t) ∧ t σ H Q
theorem gB_ok {scope : Scope} : ∀ (s : Shared) (H : Hp) (C : Addr) (cl : List (Str × Addr)) (fp : List Addr), PG (X.blk s H scope (compEnvC scope cl C X.env) fp) tg (gB X scope tg) := fun s H C cl fp => ⟨fun pins s' σ H' v u Q I r ⟨t, h, w⟩ => (h s H C cl fp).run pins s' σ H' v u Q I r w⟩
theorem tB_ok {scope : Scope} {ifs : List Expr} : ∀ (s : Shared) (H : Hp) (C : Addr) (cl : List (Str × Addr)) (fp : List Addr), PTs (X.blk s H scope (compEnvC scope cl C X.env) fp) ifs (tB2 X scope ifs) := fun s H C cl fp => ⟨fun pins s' σ H' Q I ⟨t, h, w⟩ => (h s H C cl fp).run pins s' σ H' Q I w⟩
theorem eB_ok {scope : Scope} {elt : Expr} : ∀ (s : Shared) (H : Hp) (C : Addr) (cl : List (Str × Addr)) (fp : List Addr), PE (X.blk s H scope (compEnvC scope cl C X.env) fp) elt (eB X scope elt) := fun s H C cl fp => ⟨fun pins s' σ H' Q I ⟨t, h, w⟩ => (h s H C cl fp).run pins s' σ H' Q I w⟩
theorem LcD.len {scope : Scope} {vs : List Nat} {ifs : List Expr} {elt : Expr} {ds rs : List D} (h : LcD X scope vs tg ifs elt ρ ds rs) : rs.length ≤ ds.length := by
  induction h with
  | nil => exact Nat.le_refl _
  | keep _ _ _ _ ih =>
    rw [List.length_cons, List.length_cons]
    omega
  | skip _ _ _ ih =>
    rw [List.length_cons]
    omega
theorem LcD.end_ {scope : Scope} {vs : List Nat} {ifs : List Expr} {elt : Expr} {ds rs : List D} (h : LcD X scope vs tg ifs elt ρ ds rs) (e : ds = []) : rs = [] := by
  cases h with
  | nil => rfl
  | keep => cases e
  | skip => cases e
theorem lc_reads {wi : TI} {scope : Scope} {vs : List Nat} {ifs : List Expr} {elt : Expr} {rs : List D} (h : LcD X scope vs tg ifs elt (wipeE ρ vs) ds rs) (hl : ds.length ≤ 100000) (hwi : ∀ σ H R, tI X.K ρ ds σ H R → wi σ H R) :
    ∀ σ H Q, tO X.K ρ rs σ H Q → tLc wi (gB X scope tg) (tB2 X scope ifs) (eB X scope elt) vs σ H Q := by
  intro σ H Q ⟨Bv, Bs, Hv, g, k⟩
  refine hwi σ H _ ⟨Bv, Bs, Hv, g, fun J H1 Hv1 g1 e1 hJ Dl hD => ?_⟩
  obtain ⟨G, Y, w, hG, hY⟩ := hJ.w
  have nD : Hv1 Dl = none := Evl.fresh_back g1.vx.vh hD
  have nB : Bs Dl = none := Evl.fresh_back g1.vx.hh hD
  refine lc_it w (g := gB X scope tg) (tt := tB2 X scope ifs) (te := eB X scope elt)
    (fun i H => ∃ Hv acc vacc tl, Vx Hv1 H1 Hv H ∧ Hv Dl = none ∧ H Dl = some (.lst vacc) ∧ RpL X.K Hv acc vacc ∧ LcD X scope vs tg ifs elt (wipeE ρ vs) (ds.drop i) tl ∧ acc ++ tl = rs ∧ acc.length ≤ i)
    ⟨Hv1, [], [], rs, Vx.newH g1.vx.vh hD, nD, upd_same, rpL_nil, h, rfl, Nat.zero_le _⟩
    (fun i H _ ⟨Hv, acc, vacc, tl, x, _⟩ => hG H (x.vv.trans x.vh)) (fun i x H H' hi ⟨Hv, acc, vacc, tl, hx, z1, z2, z3, z4, z5, z6⟩ y => ?_) (fun H ⟨Hv, acc, vacc, tl, hx, z1, z2, z3, z4, z5, z6⟩ => ?_)
  · obtain ⟨Hv', d, hd, vx, r⟩ := hY i H x H' Hv y hx.vv hx.vh hi
    have hdr : ds.drop i = d :: ds.drop (i + 1) := by
      obtain ⟨hlt, q⟩ := List.getElem?_eq_some_iff.mp hd
      rw [List.drop_eq_getElem_cons hlt, q]
    have nf : ∀ {Hv2 H2 : Hp}, Vx Hv H Hv2 H2 → Hv2 Dl = none := fun {Hv2 H2} q => by
      cases z : Hv2 Dl with
      | none => rfl
      | some o =>
        rcases q.fr Dl o z with u | u
        · rw [z1] at u; cases u
        · rw [z2] at u; cases u
    have x' := hx.trans vx
    have g' := g1.go x'
    have gw := g'.wipe vs
    have ww : L2.wipe (L2.wipe σ vs) vs = L2.wipe σ vs := wipe_wipe fun v hv => hv
    have hsz : acc.length < 100000 := by
      have := z6
      omega
    rw [hdr] at z4
    cases z4 with
    | @keep _ r' ρ1 _ rs' hg ht he hn =>
      refine ⟨tGw X.K vs (wipeE ρ vs) d ρ1, hg, Bv, Bs, Hv', gw, r, fun σ2 g2 ew => ⟨ew.trans ww, tBl X.K ρ1 true, ht, Bv, Bs, Hv', g2, fun H3 Hv3 g3 x3 => iteT ⟨tD X.K ρ1 r', he, Bv, Bs, Hv3, g3, fun v H4 Hv4 g4 x4 r4 => ?_⟩⟩⟩
      have xa := (vx.trans x3).trans x4
      refine ⟨vacc, xa.hh _ _ z2, Evl.sz_lt (by rw [rpL_len z3]; exact hsz), Hv4, acc ++ [r'], vacc ++ [v], rs', ?_, nf xa, upd_same, rpL_app (rpL_mono xa.vv z3) (rpL_cons r4 rpL_nil), hn, by rw [List.append_assoc]; exact z5, by rw [List.length_append]; show acc.length + 1 ≤ i + 1; omega⟩
      have xb := hx.trans xa
      exact ⟨xb.vv, Ex.mut xb.hh hD, Ex.mut xb.vh (nf xa), xb.fr⟩
    | @skip _ ρ1 _ _ hg ht hn =>
      refine ⟨tGw X.K vs (wipeE ρ vs) d ρ1, hg, Bv, Bs, Hv', gw, r, fun σ2 g2 ew => ⟨ew.trans ww, tBl X.K ρ1 false, ht, Bv, Bs, Hv', g2, fun H3 Hv3 g3 x3 => iteF ?_⟩⟩
      have xa := vx.trans x3
      exact ⟨Hv3, acc, vacc, tl, hx.trans xa, nf xa, xa.hh _ _ z2, rpL_mono xa.vv z3, hn, z5, by omega⟩
  · have e : tl = [] := z4.end_ (List.drop_eq_nil_of_le (Nat.le_refl _))
    subst e
    rw [List.append_nil] at z5
    subst z5
    exact k Dl vacc H Hv (g1.go hx) (e1.trans hx) nB z1 z2 z3 (g1.notOwn_new hD) (Evl.fresh_back e1.hh hD)
theorem xo_lc {scope : Scope} {own : List (Str × Nat)} {ifs : List Expr} {elt it : Expr} {rs : List D} (hc : X.calm = true) (hN : X.N.Nodup) (ok : BlkOk X.N X.env.scope scope own) (hi : XI X ρ tg it ds) (hl : ds.length ≤ 100000)
    (h : LcD X scope (own.map (·.2)) tg ifs elt (wipeE ρ (own.map (·.2))) ds rs) (hs : ∀ x, foldedSetIterable it X.env x = pure x := by intro _; rfl) : XO X ρ (.ListComp elt [⟨tg, it, ifs, 0⟩] scope pos) rs :=
  PE.imp (pe_lc hc hN hi ok gB_ok tB_ok eB_ok hs) (lc_reads h hl fun _ _ _ w => w)
theorem xs_setLc {W : WX} (i : Nat) {scope : Scope} {own : List (Str × Nat)} {ifs : List Expr} {elt it : Expr} {rs : List D} {spos : Pos} (hc : X.calm = true) (hN : X.N.Nodup) (hy : X.N[i]? = some s) (hyl : X.env.scope.names.lookup s = some .local) (ok : BlkOk X.N X.env.scope scope own)
    (hsw : swapsWith (.ListComp elt [⟨tg, it, ifs, 0⟩] scope pos) (some (.Name s p')) spos.line X.env = pure true) (hi : XI X ρ tg it ds) (hl : ds.length ≤ 100000)
    (h : LcD X scope (own.map (·.2)) tg ifs elt (wipeE ρ (own.map (·.2))) ds rs) (hs : ∀ x, foldedSetIterable it X.env x = pure x := by intro _; rfl) : XS X W ρ (.Assign [.Name s p'] (.ListComp elt [⟨tg, it, ifs, 0⟩] scope pos) spos) (.nx (ρ.set i (.own rs))) :=
  PS.imp (ps_setLc hc hN hy hyl hsw hi ok gB_ok tB_ok eB_ok hs) fun D σ H ⟨Bv, Bs, Hv, g, k⟩ => by
    refine lc_reads h hl (fun _ _ _ w => w) σ H _ ⟨Bv, Bs, Hv, g, fun p xs H' Hv' g' x h1 h2 h3 r h5 _ => ?_⟩
    exact k _ H' Hv' (g'.setOwn h1 h2 h3 r h5)

/-! ### a def keeps its promise -/
def startE (N : List Str) (ds : List D) : List E := ds.map E.val ++ List.replicate (N.length - ds.length) .no
/-- what a body's outcome is worth -/
inductive Leads : Out → Ro → Prop where
  | nx (ρ : List E) : Leads (.nx ρ) (.val .non)
  | ret (d : D) : Leads (.ret d) (.val d)
  | fr (l : List D) : Leads (.retO l) (.fr l)
  | frv (l : List D) : Leads (.retO l) (.val (.lst l))
  | exc (C : Addr) (ns : List Str) (ds : List D) (ρ : List E) : Leads (.exc C ns ds ρ) (.exc C ns ds)
  | frP (a b : E) : Leads (.retP a b) (.frP a b)
theorem sg_start {K : PySem.W.Frag} {Hv H : Hp} {N : List Str} {vs : List V} (e : Ex Hv H) (r : RpL K Hv ds vs) : Sg K Hv H Hv H (startE N ds) (L2.start N vs) := by
  have hl := rpL_len r
  refine ⟨Vx.refl e, by unfold startE L2.start; rw [List.length_append, List.length_append, List.length_map, List.length_map, List.length_replicate, List.length_replicate, hl], fun i q hq => ?_, fun i j l l' q h1 => ?_⟩
  · unfold startE at hq
    unfold L2.start
    by_cases hi : i < ds.length
    · rw [List.getElem?_append_left (by rw [List.length_map]; exact hi), List.getElem?_map] at hq
      rw [List.getElem?_append_left (by rw [List.length_map, hl]; exact hi), List.getElem?_map]
      cases hd : ds[i]? with
      | none =>
        rw [hd] at hq
        cases hq
      | some d =>
        rw [hd] at hq
        cases hq
        obtain ⟨v, h1, h2⟩ := rpL_get r hd
        rw [h1]
        exact ⟨some v, rfl, v, rfl, h2⟩
    · rw [List.getElem?_append_right (by rw [List.length_map]; omega), List.length_map] at hq
      rw [List.getElem?_append_right (by rw [List.length_map, hl]; omega), List.length_map, hl]
      rw [List.getElem?_replicate] at hq ⊢
      split at hq
      · rename_i hlt
        rw [if_pos hlt]
        cases hq
        exact ⟨none, rfl, trivial⟩
      · cases hq
  · exfalso
    unfold startE at h1
    by_cases hi : i < ds.length
    · rw [List.getElem?_append_left (by rw [List.length_map]; exact hi), List.getElem?_map] at h1
      cases hd : ds[i]? with
      | none =>
        rw [hd] at h1
        cases h1
      | some d =>
        rw [hd] at h1
        cases h1
    · rw [List.getElem?_append_right (by rw [List.length_map]; omega), List.length_map, List.getElem?_replicate] at h1
      split at h1 <;> cases h1
theorem fn_ok0 {P : Program} {w : World} {K : PySem.W.Frag} {mg : Str → Option Value} {base : Heap} {x qual : Str} {st : Stmt} {f : Addr} {fd : FuncData} {N ps : List Str} {k n : Nat} {φ : List D → Ro} (F : Fun K x qual st f fd) (S : FnScope N ps (defScope st)) (hn : ps.length = n)
    (body : ∀ (X : Cx) (W : WX) (ds : List D), (∃ cdv A outer s H E, X = cxOf (L2N.CX P w) P w K mg base N qual (defScope st) f cdv A outer s H E) → Bd X W k → ds.length = n → φ ds ≠ .bad → ∃ o, XB X W (startE N ds) (defBody st) o ∧ Leads o (φ ds)) : FnOk P w K mg base (L2N.CX P w) (k + 1) f fd ps (spD K n φ) := by
  refine okN F S (fun vs H Q E ⟨Hv, ds, _, r, hl, _⟩ => by rw [rpL_len r, hl, hn]) (fun cdv A outer s H vs Q E hr ⟨Hv, ds, e, r, hl, q⟩ => ?_)
  have nb : φ ds ≠ .bad := fun z => by
    rw [z] at q
    exact q
  obtain ⟨o, ho, hL⟩ := body _ (fun cls d _ H => E cls d H) ds ⟨cdv, A, outer, s, H, E, rfl⟩ ⟨S.nd, rfl, hr, passes_of rfl, L2N.takes_of rfl rfl rfl rfl, fun _ => rfl⟩ hl nb
  refine ⟨_, ho, Hv, H, Hv, sg_start e r, ?_⟩
  generalize φ ds = R at q hL
  cases hL with
  | nx ρ => exact fun σ H' Hv' g => q .non H' Hv' g.vx rp_v'
  | ret d => exact fun v H' Hv' x r => q v H' Hv' x r
  | fr l => exact fun p xs H' Hv' x h1 h2 h3 r => q p xs H' Hv' x h1 h2 h3 r
  | frv l => exact fun p xs H' Hv' x h1 h2 h3 r => q (.ref p) H' (upd Hv' p (.lst xs)) (x.freeze h2 h3 h1) (by
      unfold Rp
      exact ⟨p, xs, rfl, .inl (.inl upd_same), rpL_mono (Ex.new h2) r⟩)
  | exc C ns ds ρ => exact fun od σ H' Hv' g x => q od H' Hv' g.vx x
  | frP a b => exact fun p x y H' Hv' v h1 h2 h3 h4 => q p x y H' Hv' v h1 h2 h3 h4
end
end PL
namespace PL
open PySem PySem.Spec L2
open Evl (Ex)

/-! ### the context of a body, as the printed proofs use it -/
theorem lookup_at {nk : List (Str × NameKind)} (hn : (nk.map (·.1)).Nodup) : ∀ {j : Nat} {s : Str} {kd : NameKind}, nk[j]? = some (s, kd) → nk.lookup s = some kd := by
  induction nk with
  | nil => intro j s kd h; simp at h
  | cons y r ih =>
    intro j s kd h
    rw [List.map_cons, List.nodup_cons] at hn
    cases j with
    | zero =>
      simp at h
      subst h
      simp [List.lookup]
    | succ j =>
      have h' : r[j]? = some (s, kd) := by simpa using h
      have hm : s ∈ r.map (·.1) := List.mem_map.mpr ⟨(s, kd), List.mem_of_getElem? h', rfl⟩
      have hne : s ≠ y.1 := fun z => hn.1 (z ▸ hm)
      obtain ⟨y1, y2⟩ := y
      rw [List.lookup_cons]
      have : (s == y1) = false := by simpa using hne
      rw [this]
      exact ih hn.2 h'
def isVis : NameKind → Bool
  | .local => true
  | .cell => true
  | .free => true
  | _ => false
def isLoc : NameKind → Bool
  | .local => true
  | .cell => true
  | _ => false
structure Bx (X : Cx) (P : Program) (w : World) (K : PySem.W.Frag) (mg : Str → Option Value) (base : Heap) (k : Nat) (N : List Str) (nk : List (Str × NameKind)) : Prop where
  hP : X.prog = P
  hw : X.w = w
  hK : X.K = K
  hm : X.mg = mg
  hb : X.base = base
  room : Room k X.A
  calm : X.calm = true
  hN : X.N = N
  hs : ∀ (j : Nat) (s : Str) (kd : NameKind), nk[j]? = some (s, kd) → ∃ kd', X.env.scope.names.lookup s = some kd' ∧ (kd' = kd ∨ (kd = .free ∧ kd' = .cell))
  nd : X.N.Nodup
structure Bs (X : Cx) (W : WX) : Prop where
  po : PassesOwn (model X.prog X.w) X.A X.env X.xe
  tk : L2N.Takes X W
  fn : ∀ x, X.fn x = true
  kd : X.env.scope.kind = .function
  st : X.stack = X.env :: X.outer
  fr : X.env.frame = some X.env.locals
section
variable {X : Cx} {P : Program} {w : World} {K : PySem.W.Frag} {mg : Str → Option Value} {base : Heap} {k k' n : Nat} {N : List Str} {nk : List (Str × NameKind)} {W : WX}
variable {ρ ρ' ρ1 ρ2 : List E} {e a b c tg : Expr} {es : List Expr} {d : D} {ds l : List D} {pos p p' : Pos} {s : Str} {o o1 : Out} {kd : NameKind} {φ : List D → Ro}

theorem Bx.vis (B : Bx X P w K mg base k N nk) {j : Nat} (hj : nk[j]? = some (s, kd)) (h : isVis kd = true) : Vis X.env.scope s := by
  obtain ⟨kd', h1, rfl | ⟨rfl, rfl⟩⟩ := B.hs j s kd hj
  · cases kd' with
    | «local» => exact .inl h1
    | cell => exact .inr (.inl h1)
    | free => exact .inr (.inr h1)
    | _ => cases h
  · exact .inr (.inl h1)
theorem Bx.loc (B : Bx X P w K mg base k N nk) {j : Nat} (hj : nk[j]? = some (s, kd)) (h : isLoc kd = true) : Loc X.env.scope s := by
  obtain ⟨kd', h1, rfl | ⟨rfl, rfl⟩⟩ := B.hs j s kd hj
  · cases kd' with
    | «local» => exact .inl h1
    | cell => exact .inr h1
    | _ => cases h
  · cases h
theorem Bx.lookup_loc (B : Bx X P w K mg base k N nk) {j : Nat} (hj : nk[j]? = some (s, .local)) : X.env.kindOf s = some .local := by
  obtain ⟨kd', h1, rfl | ⟨z, _⟩⟩ := B.hs j s _ hj
  · exact h1
  · cases z
theorem Bx.gl (B : Bx X P w K mg base k N nk) {j : Nat} (hj : nk[j]? = some (s, .globalImplicit)) : Gl X s := by
  obtain ⟨kd', h1, rfl | ⟨z, _⟩⟩ := B.hs j s _ hj
  · exact h1
  · cases z
theorem Bx.at_ (B : Bx X P w K mg base k N nk) {i : Nat} (h : N[i]? = some s) : X.N[i]? = some s := by
  rw [B.hN]
  exact h
theorem Bx.none (B : Bx X P w K mg base k N nk) (h : mg s = none) : X.mg s = none := by
  rw [B.hm]
  exact h
theorem Bx.fnc (B : Bx X P w K mg base k N nk) (h : FnC P w K mg base s k' n φ) : FnC X.prog X.w X.K X.mg X.base s k' n φ := by
  rw [B.hP, B.hw, B.hK, B.hm, B.hb]
  exact h
theorem lookup_key {f : Str × NameKind → Str × NameKind} (hf : ∀ p, (f p).1 = p.1) : ∀ {l : List (Str × NameKind)} {s : Str} {kd : NameKind}, l.lookup s = some kd → (l.map f).lookup s = some (f (s, kd)).2
  | [], _, _, h => by cases h
  | (a, b) :: r, s, kd, h => by
    rw [List.lookup_cons] at h
    rw [List.map_cons]
    have e : f (a, b) = ((f (a, b)).1, (f (a, b)).2) := rfl
    rw [e, hf, List.lookup_cons]
    cases q : s == a with
    | true =>
      rw [q] at h
      have : s = a := by simpa using q
      subst this
      cases h
      rfl
    | false =>
      rw [q] at h
      exact lookup_key hf h
theorem Bx.blk (B : Bx X P w K mg base k N nk) {scope : Scope} {nkc : List (Str × NameKind)} (h1 : scope.names = nkc) (h2 : (nkc.map (·.1)).Nodup) (s : Shared) (H : Hp) (C : Addr) (cl : List (Str × Addr)) (fp : List Addr) :
    Bx (X.blk s H scope (compEnvC scope cl C X.env) fp) P w K mg base k N nkc :=
  ⟨B.hP, B.hw, B.hK, B.hm, B.hb, B.room, B.calm, B.hN, fun j s kd hj => by
    have h3 := lookup_at h2 hj
    rw [← h1] at h3
    have h4 := lookup_key (f := fun (n, k) => if (k == NameKind.free && X.env.scope.kind == .function && X.env.kindOf n == some .cell) then (n, NameKind.cell) else (n, k)) (fun p => by
      obtain ⟨n, k⟩ := p
      show (if _ then (n, NameKind.cell) else (n, k)).1 = n
      split <;> rfl) h3
    by_cases hc : (kd == NameKind.free && X.env.scope.kind == .function && X.env.kindOf s == some .cell) = true
    · refine ⟨.cell, h4.trans (congrArg (fun p : Str × NameKind => some p.2) (if_pos hc)), .inr ⟨?_, rfl⟩⟩
      simp only [Bool.and_eq_true] at hc
      have := hc.1.1
      cases kd <;> first | rfl | cases this
    · exact ⟨kd, h4.trans (congrArg (fun p : Str × NameKind => some p.2) (if_neg hc)), .inl rfl⟩, B.nd⟩

theorem x_var (B : Bx X P w K mg base k N nk) (i j : Nat) (hr : ρ[i]? = some (.val d) := by rfl) (hi : N[i]? = some s := by rfl) (hj : nk[j]? = some (s, kd) := by rfl) (hv : isVis kd = true := by rfl) (hd : (s == ("__debug__" : Str)) = false := by decide +kernel) (hcd : (s == ("__classdict__" : Str)) = false := by decide +kernel) : XE X ρ (.Name s pos) d :=
  xe_name i (B.at_ hi) (B.vis hj hv) hr hd hcd
theorem x_own (B : Bx X P w K mg base k N nk) (i j : Nat) (hr : ρ[i]? = some (.own l) := by rfl) (hi : N[i]? = some s := by rfl) (hj : nk[j]? = some (s, kd) := by rfl) (hv : isVis kd = true := by rfl) (hd : (s == ("__debug__" : Str)) = false := by decide +kernel) (hcd : (s == ("__classdict__" : Str)) = false := by decide +kernel) : XW X ρ (.Name s pos) (.lst l) :=
  xw_own i (B.at_ hi) (B.vis hj hv) hr hd hcd
theorem x_glob (B : Bx X P w K mg base k N nk) (j : Nat) {u : Value} {v : V} (hm : mg s = some u) (r : RelV v u) (hr : ∀ H, Rp K H d v) (hj : nk[j]? = some (s, .globalImplicit) := by rfl) (hd : (s == ("__debug__" : Str)) = false := by decide +kernel) : XE X ρ (.Name s pos) d :=
  xe_globD (B.gl hj) (by rw [B.hm]; exact hm) r (fun H => by rw [B.hK]; exact hr H) hd
/-- a global that the module's top holds -/
def GlD (K : PySem.W.Frag) (mg : Str → Option Value) (s : Str) (d : D) : Prop := ∃ u v, mg s = some u ∧ RelV v u ∧ ∀ H, Rp K H d v
theorem x_gd (B : Bx X P w K mg base k N nk) (j : Nat) (h : GlD K mg s d) (hj : nk[j]? = some (s, .globalImplicit) := by rfl) (hd : (s == ("__debug__" : Str)) = false := by decide +kernel) : XE X ρ (.Name s pos) d := by
  obtain ⟨u, v, h1, h2, h3⟩ := h
  exact x_glob B j h1 h2 h3 hj hd
theorem x_call (B : Bx X P w K mg base k N nk) (h : FnC P w K mg base s k' n φ) (j : Nat) (ha : XA X ρ (e :: es) ds) (hφ : φ ds = .val d) (hk : k' ≤ k := by decide) (hn : ds.length = n := by rfl) (hj : nk[j]? = some (s, .globalImplicit) := by rfl) (hdb : (s == ("__debug__" : Str)) = false := by decide +kernel)
    (he : starEach (e :: es) X.env = (false, eval e X.env) :: starEach es X.env := by rfl) (hpl : (backTo pos (starEach es X.env)).any (·.1) = false := by rfl) : XE X ρ (.Call (.Name s p) (e :: es) [] pos) d :=
  xe_call (B.fnc h) (B.room.mono hk) (B.gl hj) ha hn hφ hdb he hpl
theorem x_callO (B : Bx X P w K mg base k N nk) (h : FnC P w K mg base s k' n φ) (j : Nat) (ha : XA X ρ (e :: es) ds) (hφ : φ ds = .fr l) (hk : k' ≤ k := by decide) (hn : ds.length = n := by rfl) (hj : nk[j]? = some (s, .globalImplicit) := by rfl) (hdb : (s == ("__debug__" : Str)) = false := by decide +kernel)
    (he : starEach (e :: es) X.env = (false, eval e X.env) :: starEach es X.env := by rfl) (hpl : (backTo pos (starEach es X.env)).any (·.1) = false := by rfl) : XO X ρ (.Call (.Name s p) (e :: es) [] pos) l :=
  xo_call (B.fnc h) (B.room.mono hk) (B.gl hj) ha hn hφ hdb he hpl
theorem x_callX {C : Addr} {ns : List Str} {xs : List D} (B : Bx X P w K mg base k N nk) (S : Bs X W) (h : FnC P w K mg base s k' n φ) (j : Nat) (ha : XA X ρ (e :: es) ds) (hφ : φ ds = .exc C ns xs) (hk : k' ≤ k := by decide) (hn : ds.length = n := by rfl) (hj : nk[j]? = some (s, .globalImplicit) := by rfl) (hdb : (s == ("__debug__" : Str)) = false := by decide +kernel)
    (he : starEach (e :: es) X.env = (false, eval e X.env) :: starEach es X.env := by rfl) (hpl : (backTo pos (starEach es X.env)).any (·.1) = false := by rfl) : XX X W ρ (.Call (.Name s p) (e :: es) [] pos) C ns xs :=
  xx_call (B.fnc h) (B.room.mono hk) S.tk (B.gl hj) ha hn hφ hdb he hpl

/-! ### operators, wide too -/
inductive Bin : Operator → V → V → V → Prop where
  | addI (i j : Int) : Bin .Add (.int i) (.int j) (.int (i + j))
  | subI (i j : Int) : Bin .Sub (.int i) (.int j) (.int (i - j))
  | mulI (i j : Int) : CMul i j → Bin .Mult (.int i) (.int j) (.int (i * j))
  | mulW (i j : Int) : CMulW i j → Bin .Mult (.int i) (.int j) (.int (i * j))
  | divI (i j : Int) : CDiv i j → Bin .FloorDiv (.int i) (.int j) (.int (i / j))
  | divW (i j : Int) : 0 < j → j.natAbs.log2 < 9000 → Bin .FloorDiv (.int i) (.int j) (.int (i / j))
  | modI (i j : Int) : 0 < j → Bin .Mod (.int i) (.int j) (.int (i % j))
  | powI (i j : Int) : CPow i j → Bin .Pow (.int i) (.int j) (.int (i ^ j.toNat))
  | shlI (i j : Int) : CPow i j → Bin .LShift (.int i) (.int j) (.int (i * 2 ^ j.toNat))
  | shrI (i j : Int) : 0 ≤ j → Bin .RShift (.int i) (.int j) (.int (i / 2 ^ j.toNat))
  | andI (i j : Int) : Bin .BitAnd (.int i) (.int j) (.int (Builtin.bitAnd i j))
  | orI (i j : Int) : Bin .BitOr (.int i) (.int j) (.int (Builtin.bitOr i j))
  | xorI (i j : Int) : Bin .BitXor (.int i) (.int j) (.int (Builtin.bitXor i j))
  | catS (i j : Str) : i.length + j.length ≤ sizeLine → Bin .Add (.str i) (.str j) (.str (i ++ j))
theorem x_bin {op : Operator} {u v z : V} (ha : XE X ρ a (.v u)) (hb : XE X ρ b (.v v)) (h : Bin op u v z) : XE X ρ (.BinOp a op b pos) (.v z) := by
  cases h with
  | addI i j => exact xe_add ha hb
  | subI i j => exact xe_sub ha hb
  | mulI i j h => exact xe_mul ha hb h
  | mulW i j h => exact xe_op op_mulW ha hb (r2_I h)
  | divI i j h => exact xe_fdiv ha hb h
  | divW i j h1 h2 => exact xe_op op_fdivW ha hb (r2_I (C := CDivW) ⟨h1, h2⟩)
  | modI i j h => exact xe_mod ha hb h
  | powI i j h => exact xe_pow ha hb h
  | shlI i j h => exact xe_shl ha hb h
  | shrI i j h => exact xe_shr ha hb h
  | andI i j => exact xe_and ha hb
  | orI i j => exact xe_or ha hb
  | xorI i j => exact xe_xor ha hb
  | catS i j h => exact xe_cat ha hb h
/-- an item by its place -/
inductive Ix : D → Int → D → Prop where
  | lst (l : List D) (i : Int) (d : D) : atI l i = some d → Ix (.lst l) i d
  | tup (l : List D) (i : Int) (d : D) : atI l i = some d → Ix (.tup l) i d
  | str (z : Str) (i : Int) (c : Nat) : z.length ≤ sizeLine → atI z.cps.toList i = some c → Ix (.str z) i (.str ⟨#[c]⟩)
theorem x_ix {i : Int} {q : D} (ha : XE X ρ a q) (hb : XE X ρ b (.int i)) (h : Ix q i d) (hs : PlainIx b := by exact fun _ _ => rfl) : XE X ρ (.Subscript a b pos) d := by
  cases h with
  | lst l i d h => exact xe_ixL ha hb h hs
  | tup l i d h => exact xe_ixT ha hb h hs
  | str z i c h1 h2 => exact xe_ixS ha hb h1 h2 hs
inductive Len : D → Int → Prop where
  | lst (l : List D) : Len (.lst l) l.length
  | tup (l : List D) : Len (.tup l) l.length
  | str (z : Str) : z.length ≤ sizeLine → Len (.str z) z.length
theorem x_len {i : Int} {q : D} (B : Bx X P w K mg base k N nk) (j : Nat) (hm : mg "len" = none) (ha : XE X ρ e q) (h : Len q i) (hj : nk[j]? = some (("len" : Str), NameKind.globalImplicit) := by rfl) (he : starEach (e :: []) X.env = (false, eval e X.env) :: starEach [] X.env := by rfl) (hpl : (backTo pos (starEach [] X.env)).any (·.1) = false := by rfl) : XE X ρ (.Call (.Name "len" p) [e] [] pos) (.int i) := by
  cases h with
  | lst l => exact xe_lenL (B.gl hj) (B.none hm) ha.w he hpl
  | tup l => exact xe_lenT (B.gl hj) (B.none hm) ha.w he hpl
  | str z h => exact xe_lenS (B.gl hj) (B.none hm) ha h he hpl
theorem x_max2 {i j : Int} (B : Bx X P w K mg base k N nk) (m : Nat) (hm : mg "max" = none) (ha : XE X ρ a (.int i)) (hb : XE X ρ b (.int j)) (hj : nk[m]? = some (("max" : Str), NameKind.globalImplicit) := by rfl) (he : starEach [a, b] X.env = (false, eval a X.env) :: starEach [b] X.env := by rfl) (he2 : starEach [b] X.env = (false, eval b X.env) :: starEach [] X.env := by rfl) (hpl : (backTo pos (starEach [b] X.env)).any (·.1) = false := by rfl) : XE X ρ (.Call (.Name "max" p) [a, b] [] pos) (.int (max i j)) :=
  xe_max2 B.calm (B.gl hj) (B.none hm) (xa_cons ha (xa_cons hb xa_nil he2) he) he hpl
theorem x_min2 {i j : Int} (B : Bx X P w K mg base k N nk) (m : Nat) (hm : mg "min" = none) (ha : XE X ρ a (.int i)) (hb : XE X ρ b (.int j)) (hj : nk[m]? = some (("min" : Str), NameKind.globalImplicit) := by rfl) (he : starEach [a, b] X.env = (false, eval a X.env) :: starEach [b] X.env := by rfl) (he2 : starEach [b] X.env = (false, eval b X.env) :: starEach [] X.env := by rfl) (hpl : (backTo pos (starEach [b] X.env)).any (·.1) = false := by rfl) : XE X ρ (.Call (.Name "min" p) [a, b] [] pos) (.int (min i j)) :=
  xe_min2 B.calm (B.gl hj) (B.none hm) (xa_cons ha (xa_cons hb xa_nil he2) he) he hpl
/-- a < b < c upon plain values; the third part is asked where the first comparison holds -/
theorem op_no {f : Value → Value → Sem Value} : OpR X f (fun _ _ _ _ => False) := fun _ _ _ _ _ _ _ _ _ _ _ _ h => h.elim
theorem t_chain {op op' : CmpOp} {u v y : V} {k1 k2 : Bool} (ha : XE X ρ a (.v u)) (hb : XE X ρ b (.v v)) (h1 : Cmp op u v k1) (hc : k1 = true → XE X ρ c (.v y)) (h2 : k1 = true → Cmp op' v y k2) (he : lastMarks [op, op'] [b, c] = false := by with_unfolding_all rfl) :
    XT X ρ (.Compare a [op, op'] [b, c] pos) (k1 && k2) := by
  obtain ⟨r, g1, g2, g3, g4⟩ := h1.rule (X := X)
  cases k1 with
  | true =>
    obtain ⟨r', f1, f2, f3, f4⟩ := (h2 rfl).rule (X := X)
    refine PT.imp (pt_chain g1 f1 ha hb (hc rfl) he) fun σ H Q ⟨Bv, Bs, Hv, g, k⟩ => ⟨Bv, Bs, Hv, g, fun v1 H1 Hv1 q1 e1 r1 => ⟨Bv, Bs, Hv1, q1, fun v2 H2 Hv2 q2 e2 r2 => ?_⟩⟩
    rw [rp_v r1, rp_v r2]
    refine g2 _ _ ⟨true, rfl, ?_⟩
    exact iteT ⟨Bv, Bs, Hv2, q2, fun v3 H3 Hv3 q3 e3 r3 => by
      rw [rp_v r3]
      exact f2 _ _ ⟨_, rfl, k H3 Hv3 q3 ((e1.trans e2).trans e3)⟩⟩
  | false =>
    refine PT.imp (pt_chain g1 op_no ha hb (tc := fun _ _ _ => False) ⟨fun _ _ _ _ _ _ h => h.elim⟩ he) fun σ H Q ⟨Bv, Bs, Hv, g, k⟩ => ⟨Bv, Bs, Hv, g, fun v1 H1 Hv1 q1 e1 r1 => ⟨Bv, Bs, Hv1, q1, fun v2 H2 Hv2 q2 e2 r2 => ?_⟩⟩
    rw [rp_v r1, rp_v r2]
    exact g2 _ _ ⟨false, rfl, iteF ⟨_, rfl, k H2 Hv2 q2 (e1.trans e2)⟩⟩

/-! ### isinstance -/
/-- the kind of a datum -/
inductive Kd (K : PySem.W.Frag) : D → Value → Prop where
  | non : Kd K .non (.type "NoneType")
  | bl (b : Bool) : Kd K (.bl b) (.type "bool")
  | int (i : Int) : Kd K (.int i) (.type "int")
  | str (z : Str) : Kd K (.str z) (.type "str")
  | lst (l : List D) : Kd K (.lst l) (.type "list")
  | tup (l : List D) : Kd K (.tup l) (.type "tuple")
  | dct (ks : List Key) (l : List D) : Kd K (.dct ks l) (.type "dict")
  | obj (C : Addr) (ns : List Str) (l : List D) (cl : Cls K C) (ha : PySem.W.findIn K (.ref C) "__class__" = some (some (.builtin "object.__class__")))
      (hn : PySem.W.specialIn K (.builtin "object.__class__") "__get__" = some (some (.builtin "getset_descriptor.__get__"))) (htk : PySem.W.takesIn K (.builtin "object.__class__") = some true)
      (hm : PySem.W.mroIn K C (.type "object") = some true) : Kd K (.obj C ns l) (.ref C)
theorem Kd.ty {H : Hp} {x : V} {t : Value} (h : Kd K d t) (r : Rp K H d x) : TyX K H x t := by
  cases h with
  | non => rw [rp_v r]; exact .base .non
  | bl b => rw [rp_v r]; exact .base (.bl b)
  | int i => rw [rp_v r]; exact .base (.int i)
  | str z => rw [rp_v r]; exact .base (.str z)
  | lst l =>
    obtain ⟨a, xs, rfl, h1, h2⟩ := rp_lst r
    rcases h1 with (h1 | ⟨o, h1⟩) | ⟨o, its, n, h1, h2, _⟩
    · exact .base (.lst h1)
    · exact .base (.frz h1)
    · exact .kList h1 h2
  | tup l =>
    obtain ⟨a, xs, rfl, h1, h2⟩ := rp_tup r
    rcases h1 with (h1 | ⟨o, h1⟩) | ⟨o, its, n, h1, h2, _⟩
    · exact .base (.tup h1)
    · exact .fTuple h1
    · exact .kTuple h1 h2
  | dct ks l =>
    unfold Rp at r
    obtain ⟨a, xs, rfl, h1, _, _⟩ := r
    exact .base (.dK h1)
  | obj C ns l cl ha hn htk hm =>
    unfold Rp at r
    obtain ⟨a, dx, xs, rfl, h1, _, _⟩ := r
    exact .base (.ins h1 cl ha hn htk hm)
/-- isinstance(e, C): C a class by its global name -/
theorem x_isi {u t : Value} {c : V} {g : Str} {r : Bool} {q : D} {p2 : Pos} (B : Bx X P w K mg base k N nk) (j j2 : Nat) (hm : mg "isinstance" = none) (ha : XE X ρ e q) (hc : XE X ρ (.Name g p2) (.v c)) (hcl : ClsV c u) (hk : Kd K q t) (hr : PySem.W.kitOne K t u = some r)
    (hj : nk[j]? = some (("isinstance" : Str), NameKind.globalImplicit) := by rfl)
    (he : starEach [e, .Name g p2] X.env = (false, eval e X.env) :: starEach [.Name g p2] X.env := by rfl) (he2 : starEach [.Name g p2] X.env = (false, eval (.Name g p2) X.env) :: starEach [] X.env := by rfl) (hpl : (backTo pos (starEach [.Name g p2] X.env)).any (·.1) = false := by rfl) :
    XE X ρ (.Call (.Name "isinstance" p) [e, .Name g p2] [] pos) (.bl r) :=
  PE.imp (pe_callB call_isi (B.gl hj) (B.none hm) PyProof.Rows.boot_isinstance (xa_cons ha (xa_cons hc xa_nil he2) he) (he := he) (hpl := hpl)) fun σ H Q ⟨Bv, Bs, Hv, g, kk⟩ => ⟨Bv, Bs, Hv, g, fun vs H1 Hv1 g1 e1 r1 => by
    obtain ⟨x, r2, rfl, h1, h2⟩ := rpL_cons_inv r1
    obtain ⟨y, r3, rfl, h3, h4⟩ := rpL_cons_inv h2
    rw [rpL_nil_inv h4, rp_v h3]
    refine ⟨x, c, t, u, r, rfl, hcl, ?_, ?_, kk _ H1 Hv1 g1 e1 rp_v'⟩
    · have := hk.ty (H := H1) (rp_mono g1.vx.vh (by rw [B.hK] at h1; exact h1))
      rw [B.hK]
      exact this
    · rw [B.hK]
      exact hr⟩
/-- a built-in class by its name -/
theorem x_cls {id : String} (B : Bx X P w K mg base k N nk) (j : Nat) (hm : mg s = none) (hv : bootBuiltins s = some (.type id)) (hj : nk[j]? = some (s, .globalImplicit) := by rfl) (hn : s ≠ "__name__" := by decide +kernel) (hd : (s == ("__debug__" : Str)) = false := by decide +kernel) : XE X ρ (.Name s pos) (.v (.ty id)) :=
  xe_of (pe_bltn (B.gl hj) (B.none hm) hv (show RelV (.ty id) (.type id) from rfl) hn hd) fun _ _ _ q => q
/-! ### the law's end -/
open Classical in
noncomputable def phiLaw : List D → Ro := fun ds => if ∃ ns : List Int, ns.length ≤ 63 ∧ ds = [.lst (ns.map D.int)] then .val (.bl true) else .bad
theorem phiLaw_ok {ns : List Int} (h : ns.length ≤ 63) : phiLaw [.lst (ns.map D.int)] = .val (.bl true) := by
  unfold phiLaw
  rw [if_pos ⟨ns, h, rfl⟩]
theorem phiLaw_inv {ds : List D} (h : phiLaw ds ≠ .bad) : ∃ ns : List Int, ns.length ≤ 63 ∧ ds = [.lst (ns.map D.int)] := by
  unfold phiLaw at h
  split at h
  · assumption
  · exact absurd rfl h
/-- a def of the text, as the top has laid it -/
def DefAt (K : PySem.W.Frag) (mg : Str → Option Value) (x : Str) (st : Stmt) (ps : List Str) : Prop := ∃ f fd, Fun K x x st f fd ∧ mg x = some (.ref f) ∧ Binds K fd ps []
theorem def_fn {x qual : Str} {st : Stmt} {f : Addr} {fd : FuncData} {ps : List Str} {N : List Str} {nk : List (Str × NameKind)} {k n : Nat} {φ : List D → Ro} (F : Fun K x qual st f fd) (S : FnScope N ps (defScope st)) (hnk : (defScope st).names = nk) (hnd : (nk.map (·.1)).Nodup) (hn : ps.length = n)
    (body : ∀ (X : Cx) (W : WX) (ds : List D), Bx X P w K mg base k N nk → Bs X W → ds.length = n → φ ds ≠ .bad → ∃ o, XB X W (startE N ds) (defBody st) o ∧ Leads o (φ ds)) : FnOk P w K mg base (L2N.CX P w) (k + 1) f fd ps (spD K n φ) := by
  refine fn_ok0 F S hn fun X W ds ⟨cdv, A, outer, s, H, E, e⟩ B hl nb => ?_
  subst e
  exact body _ W ds ⟨rfl, rfl, rfl, rfl, rfl, B.room, rfl, rfl, fun j s kd hj => ⟨kd, by
    show (defScope st).names.lookup s = some kd
    rw [hnk]
    exact lookup_at hnd hj, .inl rfl⟩, S.nd⟩ ⟨B.po, B.tk, B.fn, S.kind, rfl, rfl⟩ hl nb
theorem def_ok {x : Str} {st : Stmt} {ps : List Str} {N : List Str} {nk : List (Str × NameKind)} {k n : Nat} {φ : List D → Ro} (T : DefAt K mg x st ps) (S : FnScope N ps (defScope st)) (hnk : (defScope st).names = nk) (hnd : (nk.map (·.1)).Nodup) (hn : ps.length = n)
    (body : ∀ (X : Cx) (W : WX) (ds : List D), Bx X P w K mg base k N nk → Bs X W → ds.length = n → φ ds ≠ .bad → ∃ o, XB X W (startE N ds) (defBody st) o ∧ Leads o (φ ds)) : FnC P w K mg base x (k + 1) n φ := by
  obtain ⟨f, fd, F, hm, hb⟩ := T
  exact ⟨f, fd, ps, hm, def_fn F S hnk hnd hn body, F.kp, hb⟩
end
theorem def_at {K : PySem.W.Frag} {h : Heap} {mg : Str → Option Value} {x : Str} {st : Stmt} {ps : List Str} {f : Addr} {oc : Value} {od an : Option Addr} {osl : Array (Option Value)} {kV dc pm cd ct : Value} (X : K.In h) (G : h.Ns mainGlobals mg)
    (a : PySem.W.nsIn K mainGlobals x = some (some (.ref f))) (l : K.lookup f = some ⟨oc, od, .func (PySem.W.fnOf x x (defArgs st) (defBody st) (defScope st) .none kV dc pm an cd ct), osl⟩) (c : PySem.W.codeIn K cd x = true) (k : PySem.W.keepIn K (.ref f) = true)
    (hb : ∀ (kV doc pm : Value) (an : Option Addr) (cdv ct : Value) (us : List Value), us.length = ps.length → bindArgs (PySem.W.fnOf x x (defArgs st) (defBody st) (defScope st) .none kV doc pm an cdv ct) ⟨us, []⟩ = pure (ps.zip us)) : DefAt K mg x st ps := by
  have F := fun_mk (st := st) l c k
  exact ⟨f, _, F, PySem.W.mg_of X G a, F.binds hb⟩
/-- the law's walk from its contract -/
theorem law_walk {l : PySem.W.OpenLaw} {k : Nat} {q : Program} {loose : List Str} {XP : (Str → Option Value) → Heap → Prop} {YP : World → Heap → Prop} {d : DefRec} {K : Params → PySem.W.Frag} {x : Str}
    (hn : l.most = some 63) (hdf : d.params.defaults = []) (hr : Room k callerA) (hY : ∀ (w : World) (h : Heap), YP w h → (K w.params).In h)
    (F : ∀ (w : World) (mg : Str → Option Value) (fa : Addr) (h : Heap), (K w.params).In h → h.Ns mainGlobals mg → mg d.name = some (.ref fa) →
      ∃ fd : FuncData, (∀ (s : Shared) (u : Value), BindsTo s fd ⟨[u], []⟩ [(x, u)]) ∧
        ∀ base : Heap, (K w.params).In base → base.Ns mainGlobals mg → FnOk l.prog w (K w.params) mg base (L2N.CX l.prog w) k fa fd [x] (spD (K w.params) 1 phiLaw)) :
    PySem.W.WalkO q loose XP YP l.row.toRowW d [] (fun f vs => PySem.call f vs) :=
  L2.walk_of (n := 63) (k := k) (x := x) (CX := fun w => L2N.CX l.prog w) (sp := fun w => spD (K w.params) 1 phiLaw) hn (by decide) hdf hr hY F
    (fun w H a ns hl _ hS => ⟨H, [.lst (ns.map D.int)], Ex.refl _, rpL_cons (by
      unfold Rp
      exact ⟨a, ns.map V.int, rfl, hS, by
        rw [show ns.map D.int = (ns.map V.int).map D.v by rw [List.map_map]; rfl]
        exact rpL_vs'⟩) rpL_nil, rfl, by
      rw [phiLaw_ok hl]
      exact fun v H' Hv' _ r => rp_v r⟩) fun w H s e s' h => by
      obtain ⟨_, _, _, _, _, _, _, _, _, _, _, _, z⟩ := h
      exact z.elim
end PL
namespace PL
open PySem PySem.Spec L2
open Evl (Ex)
section
variable {X : Cx} {P : Program} {w : World} {K : PySem.W.Frag} {mg : Str → Option Value} {base : Heap} {k k' n : Nat} {N : List Str} {nk : List (Str × NameKind)} {W : WX}
variable {ρ ρ' ρ1 ρ2 : List E} {e a b c tg : Expr} {es : List Expr} {d : D} {ds l : List D} {pos p p' : Pos} {s : Str} {o o1 : Out} {kd : NameKind} {φ : List D → Ro} {body sts other more : List Stmt} {st : Stmt} {B : Bool}

theorem xb_end (w : WkL ρ ρ') : XB X W ρ [] (.nx ρ') := xb_nil.wkO w
/-- an if whose ways meet again -/
theorem xb_ifj {α : Type} (R : α → List E) (p : α → Prop) (h : XT X ρ c B) (h1 : B = true → ∃ y, p y ∧ XB X W ρ sts (.nx (R y))) (h2 : B = false → ∃ y, p y ∧ XB X W ρ other (.nx (R y))) (h3 : ∀ y, p y → XB X W (R y) more o) : XB X W ρ (.If c sts other pos :: more) o := by
  cases B with
  | true =>
    obtain ⟨y, hp, hy⟩ := h1 rfl
    exact xb_cons (xs_if h (fun _ => hy) nofun) (h3 y hp)
  | false =>
    obtain ⟨y, hp, hy⟩ := h2 rfl
    exact xb_cons (xs_if h nofun fun _ => hy) (h3 y hp)
/-- a test that is known -/
theorem xb_ifF (h : XT X ρ c B) (hB : B = false) (h2 : XB X W ρ more o) : XB X W ρ (.If c sts [] pos :: more) o := by
  subst hB
  exact xb_cons (xs_if h nofun fun _ => xb_nil) h2
theorem xb_ifT (h : XT X ρ c B) (hB : B = true) (h2 : XB X W ρ sts o) (q : Stop o) : XB X W ρ (.If c sts other pos :: more) o := by
  subst hB
  exact xb_stop (xs_if h (fun _ => h2) nofun) q
theorem x_set (B : Bx X P w K mg base k N nk) (S : Bs X W) (i j : Nat) (h : XE X ρ e d) (t : XB X W (ρ.set i (.val d)) more o) (hi : N[i]? = some s := by rfl) (hj : nk[j]? = some (s, kd) := by rfl) (hl : isLoc kd = true := by rfl)
    (hs : swapsWith e (some (.Name s p')) pos.line X.env = pure false := by rfl) : XB X W ρ (.Assign [.Name s p'] e pos :: more) o :=
  xb_cons (xs_set i B.nd (B.at_ hi) (B.loc hj hl) (S.fn _) h hs) t
theorem x_setO (B : Bx X P w K mg base k N nk) (S : Bs X W) (i j : Nat) (h : XO X ρ e l) (t : XB X W (ρ.set i (.own l)) more o) (hi : N[i]? = some s := by rfl) (hj : nk[j]? = some (s, kd) := by rfl) (hl : isLoc kd = true := by rfl)
    (hs : swapsWith e (some (.Name s p')) pos.line X.env = pure false := by rfl) : XB X W ρ (.Assign [.Name s p'] e pos :: more) o :=
  xb_cons (xs_setO i B.nd (B.at_ hi) (B.loc hj hl) (S.fn _) h hs) t
theorem x_tgt (B : Bx X P w K mg base k N nk) (hf : ∀ s, X.fn s = true) (i j : Nat) (hi : N[i]? = some s := by rfl) (hj : nk[j]? = some (s, kd) := by rfl) (hl : isLoc kd = true := by rfl) : XG X ρ (.Name s p) d (ρ.set i (.val d)) :=
  xg_name i B.nd (B.at_ hi) (B.loc hj hl) (.inl (hf _))
theorem x_for (B : Bx X P w K mg base k N nk) (S : Bs X W) {it : Expr} (hi : XI X ρ tg it ds) (h : FoD X W tg body ds ρ (.nx ρ1)) (t : XB X W ρ1 more o) (hs : ∀ x, foldedSetIterable it X.env x = pure x := by intro _; rfl) : XB X W ρ (.For tg it body [] pos :: more) o :=
  xb_cons (xs_for S.po B.calm hi h hs) t
theorem x_ret (h : XE X ρ e d) : XB X W ρ (.Return (some e) pos :: more) (.ret d) := xb_stop (xs_ret h) trivial
theorem x_retO (h : XO X ρ e l) : XB X W ρ (.Return (some e) pos :: more) (.retO l) := xb_stop (xs_retO h) trivial
theorem x_retOwn (B : Bx X P w K mg base k N nk) (i j : Nat) (hr : ρ[i]? = some (.own l) := by rfl) (hi : N[i]? = some s := by rfl) (hj : nk[j]? = some (s, kd) := by rfl) (hv : isVis kd = true := by rfl) (hd : (s == ("__debug__" : Str)) = false := by decide +kernel) (hcd : (s == ("__classdict__" : Str)) = false := by decide +kernel) : XB X W ρ (.Return (some (.Name s p)) pos :: more) (.retO l) :=
  xb_stop (xs_retOwn i (B.at_ hi) (B.vis hj hv) hr hd hcd) trivial
theorem x_push (B : Bx X P w K mg base k N nk) (i j : Nat) {ap p1 : Pos} (h : XE X ρ e d) (hl : l.length < 100000) (t : XB X W (ρ.set i (.own (l ++ [d]))) more o) (hr : ρ[i]? = some (.own l) := by rfl) (hi : N[i]? = some s := by rfl) (hj : nk[j]? = some (s, kd) := by rfl) (hv : isVis kd = true := by rfl) (hd : (s == ("__debug__" : Str)) = false := by decide +kernel) (hcd : (s == ("__classdict__" : Str)) = false := by decide +kernel)
    (hbase : attributeBase (.Name s p') "append" X.env (eval (.Name s p') X.env) = eval (.Name s p') X.env := by rfl)
    (hfew : ((backTo p1 (starEach (e :: []) X.env)).all (fun x => !x.1) && (backToKw p1 (keywordEach [] X.env)).all (fun x => x.1.isSome)
      && decide ((e :: ([] : List Expr)).length + ([] : List Keyword).length + (if ([] : List Keyword).isEmpty then 0 else 1) < 30)) = true := by rfl)
    (hline : (ap.endLine == p1.line) = true := by rfl) (hs' : starEach (e :: []) X.env = (false, eval e X.env) :: starEach [] X.env := by rfl) (hplain : (backTo p1 (starEach [] X.env)).any (·.1) = false := by rfl)
    (hs : swapsWith (.Call (.Attribute (.Name s p') "append" ap) [e] [] p1) none pos.line X.env = pure false := by rfl) :
    XB X W ρ (.Expr (.Call (.Attribute (.Name s p') "append" ap) [e] [] p1) pos :: more) o :=
  xb_cons (xs_push i (B.at_ hi) (B.vis hj hv) hr h hl hd hcd hbase hfew hline hs' hplain hs) t
theorem x_range1 {j : Int} (B : Bx X P w K mg base k N nk) (m : Nat) (hm : mg "range" = none) (ha : XE X ρ a (.int j)) (hj : -(2 ^ 62) ≤ j ∧ j < 2 ^ 62) (hn : nk[m]? = some (("range" : Str), NameKind.globalImplicit) := by rfl) (he : starEach [a] X.env = [(false, eval a X.env)] := by rfl) : XI X ρ tg (.Call (.Name "range" p) [a] [] pos) (rgD 0 j.toNat) :=
  xi_range1 (B.gl hn) (B.none hm) ha hj he
theorem x_range2 {i j : Int} (B : Bx X P w K mg base k N nk) (m : Nat) (hm : mg "range" = none) (ha : XE X ρ a (.int i)) (hb : XE X ρ b (.int j)) (hj : -(2 ^ 62) ≤ i ∧ i < 2 ^ 62 ∧ -(2 ^ 62) ≤ j ∧ j < 2 ^ 62) (hn : nk[m]? = some (("range" : Str), NameKind.globalImplicit) := by rfl)
    (hs : starEach [a, b] X.env = [(false, eval a X.env), (false, eval b X.env)] := by rfl) (hs2 : starEach [b] X.env = [(false, eval b X.env)] := by rfl) : XI X ρ tg (.Call (.Name "range" p) [a, b] [] pos) (rgD i (j - i).toNat) :=
  xi_range2 (B.gl hn) (B.none hm) ha hb hj hs hs2

/-- a loop that keeps its frame -/
theorem fo_all : ∀ {ds : List D}, (∀ d ∈ ds, ∃ ρ1, XG X ρ tg d ρ1 ∧ XB X W ρ1 body (.nx ρ)) → FoD X W tg body ds ρ (.nx ρ)
  | [], _ => .nil
  | d :: ds, h => by
    obtain ⟨ρ1, h1, h2⟩ := h d List.mem_cons_self
    exact .next h1 h2 (.inl rfl) (fo_all fun d hd => h d (List.mem_cons_of_mem _ hd))
/-- a loop that folds: R says the frame at a state; p holds of the state ahead of each item -/
theorem fo_fold {β : Type} (R : β → List E) (f : β → D → β) : ∀ {ds : List D} {y : β} (p : β → List D → Prop), p y ds → (∀ y d r, p y (d :: r) → p (f y d) r ∧ ∃ ρ1, XG X (R y) tg d ρ1 ∧ XB X W ρ1 body (.nx (R (f y d)))) → FoD X W tg body ds (R y) (.nx (R (ds.foldl f y)))
  | [], _, _, _, _ => .nil
  | d :: ds, y, p, h0, h => by
    obtain ⟨h1, ρ1, h2, h3⟩ := h y d ds h0
    exact .next h2 h3 (.inl rfl) (fo_fold R f p h1 h)
theorem blk_of {scope : Scope} {nkc : List (Str × NameKind)} {Q : Cx → Prop} (h1 : scope.names = nkc) (h2 : (nkc.map (·.1)).Nodup) (B : Bx X P w K mg base k N nk) (q : ∀ Y : Cx, Bx Y P w K mg base k N nkc → Q Y) : Blk X scope Q := fun s H C cl fp => q _ (B.blk h1 h2 s H C cl fp)
theorem x_tgw {vs : List Nat} (B : Bx X P w K mg base k N nk) (i j : Nat) (hj : nk[j]? = some (s, .local) := by rfl) (hi : N[i]? = some s := by rfl) (hv : i ∈ vs := by decide) : XGw X vs ρ (.Name s p) d (ρ.set i (.val d)) :=
  xgw_name i B.nd (B.at_ hi) (B.loc hj rfl) (.inr (by
    obtain ⟨kd', h1, rfl | ⟨z, _⟩⟩ := B.hs j s _ hj
    · exact h1
    · cases z)) hv
end
/-! ### the law's def -/
theorem law_mk {P : Program} {w : World} {K : PySem.W.Frag} {h : Heap} {mg : Str → Option Value} {st : Stmt} {p : Str} {fa f : Addr} {k : Nat} {oc : Value} {od an : Option Addr} {osl : Array (Option Value)} {kV dc pm cd ct : Value} (X : K.In h) (G : h.Ns mainGlobals mg) (hfa : mg "law" = some (.ref fa))
    (a : PySem.W.nsIn K mainGlobals "law" = some (some (.ref f))) (l : K.lookup f = some ⟨oc, od, .func (PySem.W.fnOf "law" "law" (defArgs st) (defBody st) (defScope st) .none kV dc pm an cd ct), osl⟩) (c : PySem.W.codeIn K cd "law" = true) (kp : PySem.W.keepIn K (.ref f) = true)
    (hb : ∀ (kV doc pm : Value) (an : Option Addr) (cdv ct : Value) (us : List Value), us.length = ([p] : List Str).length → bindArgs (PySem.W.fnOf "law" "law" (defArgs st) (defBody st) (defScope st) .none kV doc pm an cdv ct) ⟨us, []⟩ = pure (([p] : List Str).zip us))
    (hB : ∀ (s : Shared) (v : Value), BindsTo s (PySem.W.fnOf "law" "law" (defArgs st) (defBody st) (defScope st) .none kV dc pm an cd ct) ⟨[v], []⟩ [(p, v)])
    (F : ∀ (fd : FuncData), Fun K "law" "law" st f fd → ∀ base : Heap, FnOk P w K mg base (L2N.CX P w) k f fd [p] (spD K 1 phiLaw)) :
    ∃ fd : FuncData, (∀ (s : Shared) (u : Value), BindsTo s fd ⟨[u], []⟩ [(p, u)]) ∧ ∀ base : Heap, K.In base → base.Ns mainGlobals mg → FnOk P w K mg base (L2N.CX P w) k fa fd [p] (spD K 1 phiLaw) := by
  have e := hfa.symm.trans (PySem.W.mg_of X G a)
  cases e
  exact ⟨_, hB, fun base _ _ => F _ (fun_mk (st := st) l c kp) base⟩
/-! ### cells of the script -/
theorem ix_nat {l : List D} {k : Int} {d : D} (h0 : 0 ≤ k) (h : l[k.toNat]? = some d) : atI l k = some d := by
  have e : ((k.toNat : Nat) : Int) = k := by omega
  rw [← e]
  exact atI_nat h
end PL
namespace PL
open PySem PySem.Spec L2
open Evl (Ex)
theorem boot_int : bootBuiltins "int" = some (.type "int") := PyProof.Rows.boot_int
theorem boot_bool : bootBuiltins "bool" = some (.type "bool") := PyProof.Rows.boot_bool
theorem boot_str : bootBuiltins "str" = some (.type "str") := by decide +kernel
theorem boot_list : bootBuiltins "list" = some (.type "list") := by decide +kernel
/-- isinstance of built-in kinds -/
def isB (a b : String) : Bool := a == b || (a == "bool" && b == "int")
def kinds : List String := ["NoneType", "bool", "int", "str", "list", "tuple", "dict"]
def clss : List String := ["bool", "int", "str", "list", "tuple", "dict"]
theorem kinds_ok : (kinds.all fun a => clss.all fun b => decide (kitB a b = some (isB a b))) = true := by decide +kernel
theorem kit_is {K : PySem.W.Frag} {a b : String} (ha : a ∈ kinds := by decide) (hb : b ∈ clss := by decide) : PySem.W.kitOne K (.type a) (.type b) = some (isB a b) := by
  have h := kinds_ok
  rw [List.all_eq_true] at h
  have h2 := h a ha
  rw [List.all_eq_true] at h2
  exact kit_ty (of_decide_eq_true (h2 b hb))
section
variable {X : Cx} {P : Program} {w : World} {K : PySem.W.Frag} {mg : Str → Option Value} {base : Heap} {k k' n : Nat} {N : List Str} {nk : List (Str × NameKind)} {W : WX}
variable {ρ ρ' ρ1 ρ2 : List E} {e a b c tg : Expr} {es : List Expr} {d : D} {ds l : List D} {pos p p' : Pos} {s : Str} {o o1 : Out} {kd : NameKind} {φ : List D → Ro} {body sts other more : List Stmt} {st : Stmt} {B : Bool}

theorem x_abs {i : Int} (B : Bx X P w K mg base k N nk) (m : Nat) (hm : mg "abs" = none) (ha : XE X ρ e (.int i)) (hj : nk[m]? = some (("abs" : Str), NameKind.globalImplicit) := by rfl) (he : starEach (e :: []) X.env = (false, eval e X.env) :: starEach [] X.env := by rfl) (hpl : (backTo pos (starEach [] X.env)).any (·.1) = false := by rfl) : XE X ρ (.Call (.Name "abs" p) [e] [] pos) (.int (if i < 0 then -i else i)) :=
  xe_abs (B.gl hj) (B.none hm) ha he hpl
theorem x_str {i : Int} (B : Bx X P w K mg base k N nk) (m : Nat) (hm : mg "str" = none) (ha : XE X ρ e (.int i)) (hz : i.natAbs.log2 < 1920) (hj : nk[m]? = some (("str" : Str), NameKind.globalImplicit) := by rfl) (he : starEach (e :: []) X.env = (false, eval e X.env) :: starEach [] X.env := by rfl) (hpl : (backTo pos (starEach [] X.env)).any (·.1) = false := by rfl) : XE X ρ (.Call (.Name "str" p) [e] [] pos) (.str (toString i : String)) :=
  xe_callT (us := [.int i]) call_str_int (B.gl hj) (B.none hm) boot_str (xa_cons ha xa_nil he) (fun _ _ q => ⟨i, rfl, hz, q⟩) (he := he) (hpl := hpl)
theorem x_enum {elts : List Expr} {kk : Nat} {tpos : Pos} (B : Bx X P w K mg base k N nk) (m : Nat) (hm : mg "enumerate" = none) (ha : XE X ρ e (.lst ds)) (hj : nk[m]? = some (("enumerate" : Str), NameKind.globalImplicit) := by rfl) (hs : starEach [e] X.env = [(false, eval e X.env)] := by rfl) : XI X ρ (.Tuple elts kk tpos) (.Call (.Name "enumerate" p) [e] [] pos) (enL 0 ds) :=
  xi_enum (B.gl hj) (B.none hm) ha hs
/-! ### a comprehension's names -/
def isCF : NameKind → Bool
  | .cell => true
  | .free => true
  | _ => false
def blkB (N : List Str) (nk : List (Str × NameKind)) (scope : Scope) (own : List (Str × Nat)) : Bool :=
  (match scope.kind with | .function => true | _ => false) && (scope.names.all fun y => decide (scope.names.lookup y.1 = some y.2)) && (own.all fun p => decide (N[p.2]? = some p.1)) &&
    (scope.names.all fun y => match y.2 with
      | .free => nk.any fun z => decide (z.1 = y.1) && isCF z.2
      | .local => decide (y.1 ∈ own.map (·.1)) || decide (y.1 ∉ N)
      | .cell => decide (y.1 ∈ own.map (·.1)) || decide (y.1 ∉ N)
      | _ => true)
theorem okb {scope : Scope} {own : List (Str × Nat)} (B : Bx X P w K mg base k N nk) (h : blkB N nk scope own = true := by decide +kernel) : BlkOk X.N X.env.scope scope own := by
  unfold blkB at h
  simp only [Bool.and_eq_true, List.all_eq_true, decide_eq_true_eq] at h
  obtain ⟨⟨⟨h1, h2⟩, h3⟩, h4⟩ := h
  refine ⟨?_, h2, fun p hp => by rw [B.hN]; exact h3 p hp, fun y hy e => ?_, fun y hy e => ?_⟩
  · split at h1
    · assumption
    · cases h1
  · have q := h4 y hy
    simp only [e, List.any_eq_true, Bool.and_eq_true, decide_eq_true_eq] at q
    obtain ⟨z, hz, e1, e2⟩ := q
    obtain ⟨j, hj⟩ := List.getElem?_of_mem hz
    obtain ⟨kd', h5, rfl | ⟨h6, rfl⟩⟩ := B.hs j z.1 z.2 hj
    · rw [e1] at h5
      obtain ⟨z1, z2⟩ := z
      simp only at h5 e2
      cases z2 <;> first | (cases e2; done) | exact .inl h5 | exact .inr h5
    · rw [e1] at h5
      exact .inl h5
  · have q := h4 y hy
    rw [B.hN]
    rcases e with e | e <;> (simp only [e, Bool.or_eq_true, decide_eq_true_eq] at q; exact q)
end
/-! ### contracts by what is handed in -/
def fI (f : Int → Ro) : List D → Ro
  | [.v (.int a)] => f a
  | _ => .bad
def fIII (f : Int → Int → Int → Ro) : List D → Ro
  | [.v (.int a), .v (.int b), .v (.int c)] => f a b c
  | _ => .bad
def fLI (f : List D → Int → Ro) : List D → Ro
  | [.lst l, .v (.int a)] => f l a
  | _ => .bad
def fV (f : D → Ro) : List D → Ro
  | [d] => f d
  | _ => .bad
theorem inv_I {f : Int → Ro} {ds : List D} (h : fI f ds ≠ .bad) : ∃ a, ds = [.int a] ∧ f a ≠ .bad := by
  unfold fI at h
  split at h
  · exact ⟨_, rfl, h⟩
  · exact absurd rfl h
theorem inv_III {f : Int → Int → Int → Ro} {ds : List D} (h : fIII f ds ≠ .bad) : ∃ a b c, ds = [.int a, .int b, .int c] ∧ f a b c ≠ .bad := by
  unfold fIII at h
  split at h
  · exact ⟨_, _, _, rfl, h⟩
  · exact absurd rfl h
theorem inv_LI {f : List D → Int → Ro} {ds : List D} (h : fLI f ds ≠ .bad) : ∃ l a, ds = [.lst l, .int a] ∧ f l a ≠ .bad := by
  unfold fLI at h
  split at h
  · exact ⟨_, _, rfl, h⟩
  · exact absurd rfl h
theorem inv_V {f : D → Ro} {ds : List D} (h : fV f ds ≠ .bad) : ∃ d, ds = [d] ∧ f d ≠ .bad := by
  unfold fV at h
  split at h
  · exact ⟨_, rfl, h⟩
  · exact absurd rfl h
theorem if_ok {c : Prop} [Decidable c] {r : Ro} (h : (if c then r else .bad) ≠ .bad) : c := by
  by_cases q : c
  · exact q
  · rw [if_neg q] at h
    exact absurd rfl h
/-! ### globals of the written part -/
section
variable {K : PySem.W.Frag} {h : Heap} {mg : Str → Option Value} {s : Str}
theorem gl_int {i : Int} {t : Tok} (X : K.In h) (G : h.Ns mainGlobals mg) (a : PySem.W.nsIn K mainGlobals s = some (some (.int i t))) : GlD K mg s (.int i) := ⟨_, .int i, PySem.W.mg_of X G a, ⟨t, rfl⟩, fun _ => rp_v'⟩
theorem gl_str {z : Str} {t : Tok} (X : K.In h) (G : h.Ns mainGlobals mg) (a : PySem.W.nsIn K mainGlobals s = some (some (.str z t))) : GlD K mg s (.str z) := ⟨_, .str z, PySem.W.mg_of X G a, ⟨t, rfl⟩, fun _ => rp_v'⟩
end
end PL
namespace PL
open PySem PySem.Spec L2
open Evl (Ex)
/-! ### == of data -/
mutual
def toPy : D → Option PyData
  | .v .non => some .none
  | .v (.bl b) => some (.bool b)
  | .v (.int i) => some (.int i)
  | .v (.str z) => some (.str z)
  | .v _ => none
  | .tup l => (toPyL l).map PyData.tuple
  | .lst l => (toPyL l).map PyData.list
  | .obj _ _ _ => none
  | .dct _ _ => none
  | .pin _ _ => none
def toPyL : List D → Option (List PyData)
  | [] => some []
  | d :: l => match toPy d, toPyL l with
    | some p, some ps => some (p :: ps)
    | _, _ => none
end
section
variable {K : PySem.W.Frag} {H : Hp}
mutual
theorem dp_of : ∀ {d : D} {p : PyData} {u : V}, toPy d = some p → Rp K H d u → Dp K H u p
  | .v x, p, u, h, r => by
    rw [rp_v r]
    cases x <;> simp only [toPy] at h <;> first | (cases h; done) | (cases h; constructor)
  | .tup l, p, u, h, r => by
    obtain ⟨a, xs, rfl, h1, h2⟩ := rp_tup r
    unfold toPy at h
    cases q : toPyL l with
    | none =>
      rw [q] at h
      cases h
    | some ps =>
      rw [q] at h
      cases h
      exact .tup h1 (dpL_of q h2)
  | .lst l, p, u, h, r => by
    obtain ⟨a, xs, rfl, h1, h2⟩ := rp_lst r
    unfold toPy at h
    cases q : toPyL l with
    | none =>
      rw [q] at h
      cases h
    | some ps =>
      rw [q] at h
      cases h
      exact .lst h1 (dpL_of q h2)
  | .obj _ _ _, p, u, h, r => by
    unfold toPy at h
    cases h
  | .dct _ _, p, u, h, r => by
    unfold toPy at h
    cases h
  | .pin _ _, p, u, h, r => by
    unfold toPy at h
    cases h
theorem dpL_of : ∀ {l : List D} {ps : List PyData} {xs : List V}, toPyL l = some ps → RpL K H l xs → DpAll K H xs ps
  | [], ps, xs, h, r => by
    rw [rpL_nil_inv r]
    unfold toPyL at h
    cases h
    exact .nil
  | d :: l, ps, xs, h, r => by
    obtain ⟨x, r', rfl, h1, h2⟩ := rpL_cons_inv r
    unfold toPyL at h
    cases q : toPy d with
    | none =>
      rw [q] at h
      cases h
    | some p =>
      cases q2 : toPyL l with
      | none =>
        rw [q, q2] at h
        cases h
      | some ps' =>
        rw [q, q2] at h
        cases h
        exact .cons (dp_of q h1) (dpL_of q2 h2)
end
end
theorem toPyL_ints : ∀ (ns : List Int), toPyL (ns.map D.int) = some (ns.map PyData.int)
  | [] => rfl
  | n :: ns => by
    show (match toPy (D.int n), toPyL (ns.map D.int) with | some p, some ps => some (p :: ps) | _, _ => none) = _
    rw [toPyL_ints ns]
    rfl
theorem eqvAll_ints : ∀ (ns ms : List Int), PyData.eqvAll (ns.map PyData.int) (ms.map PyData.int) = decide (ns = ms)
  | [], [] => by simp [PyData.eqvAll]
  | [], m :: ms => by simp [PyData.eqvAll]
  | n :: ns, [] => by simp [PyData.eqvAll]
  | n :: ns, m :: ms => by
    show ((n == m) && PyData.eqvAll (ns.map PyData.int) (ms.map PyData.int)) = _
    rw [eqvAll_ints ns ms]
    by_cases h1 : n = m
    · subst h1
      by_cases h2 : ns = ms
      · subst h2
        simp
      · simp [h2]
    · simp [h1]
/-- what == of two data gives -/
structure EqD (d e : D) (b : Bool) : Prop where
  ex : ∃ p q, toPy d = some p ∧ toPy e = some q ∧ SeqAt.shaped p = true ∧ SeqAt.shaped q = true ∧ PyData.eqv p q = b
section
variable {X : Cx} {P : Program} {w : World} {K : PySem.W.Frag} {mg : Str → Option Value} {base : Heap} {k k' n : Nat} {N : List Str} {nk : List (Str × NameKind)} {W : WX}
variable {ρ ρ' ρ1 ρ2 : List E} {e a b c tg : Expr} {es : List Expr} {d f : D} {ds l m : List D} {pos p p' : Pos} {s : Str} {o o1 : Out} {kd : NameKind} {φ : List D → Ro} {body sts other more : List Stmt} {st : Stmt} {Bo : Bool}
theorem t_eqD (B : Bx X P w K mg base k N nk) (ha : XW X ρ a d) (hb : XW X ρ b f) (h : EqD d f Bo) : XT X ρ (.Compare a [.Eq] [b] pos) Bo :=
  PT.imp (pt_cmpR (op_eqD B.room.units) ha hb (nomark _)) fun σ H Q ⟨Bv, Bs, Hv, g, k⟩ => ⟨Bv, Bs, Hv, g, fun v1 H1 Hv1 g1 e1 r1 => ⟨Bv, Bs, Hv1, g1, fun v2 H2 Hv2 g2 e2 r2 => by
    obtain ⟨p, q, h1, h2, h3, h4, h5⟩ := h.ex
    refine ⟨p, q, dp_of h1 (rp_mono e2.hh r1), dp_of h2 r2, h3, h4, ?_⟩
    rw [h5]
    exact ⟨_, rfl, k H2 Hv2 g2 (e1.trans e2)⟩⟩⟩
/-! ### a list, whoever holds it, its items told by the view -/
def tQ (K : PySem.W.Frag) (ρ : List E) (l : List D) : TE := fun σ H Q => ∃ Bv Bs Hv, Sg K Bv Bs Hv H ρ σ ∧ ∀ q xs H' Hv', Sg K Bv Bs Hv' H' ρ σ → Vx Hv H Hv' H' → SqL K H' q xs → RpL K Hv' l xs → Q (.ref q) H'
abbrev XQ (X : Cx) (ρ : List E) (e : Expr) (l : List D) : Prop := PE X e (tQ X.K ρ l)
theorem XE.q (h : XE X ρ e (.lst l)) : XQ X ρ e l := PE.imp h fun σ H Q ⟨Bv, Bs, Hv, g, k⟩ => ⟨Bv, Bs, Hv, g, fun v H' Hv' g' x r => by
  obtain ⟨q, xs, rfl, h1, h2⟩ := rp_lst r
  exact k q xs H' Hv' g' x (Evl.ex_l g'.vx.vh h1) h2⟩
theorem XO.q (h : XO X ρ e l) : XQ X ρ e l := PE.imp h fun σ H Q ⟨Bv, Bs, Hv, g, k⟩ => ⟨Bv, Bs, Hv, g, fun q xs H' Hv' g' x h1 h2 h3 h4 h5 h6 => k q xs H' Hv' g' x (.inl (.inl h3)) h4⟩
theorem x_ownQ (B : Bx X P w K mg base k N nk) (i j : Nat) (hr : ρ[i]? = some (.own l) := by rfl) (hi : N[i]? = some s := by rfl) (hj : nk[j]? = some (s, kd) := by rfl) (hv : isVis kd = true := by rfl) (hd : (s == ("__debug__" : Str)) = false := by decide +kernel) (hcd : (s == ("__classdict__" : Str)) = false := by decide +kernel) : XQ X ρ (.Name s pos) l :=
  PE.imp (pe_var (i := i) (B.at_ hi) (B.vis hj hv) hd hcd) fun σ H Q ⟨Bv, Bs, Hv, g, k⟩ => by
    obtain ⟨q, xs, h1, h2, h3, h4, h5⟩ := g.own hr
    exact ⟨_, h1, k q xs H Hv g (Vx.refl g.vx.vh) (.inl (.inl h4)) h5⟩
theorem x_lenQ (B : Bx X P w K mg base k N nk) (j : Nat) (hm : mg "len" = none) (ha : XQ X ρ e l) (hj : nk[j]? = some (("len" : Str), NameKind.globalImplicit) := by rfl) (he : starEach (e :: []) X.env = (false, eval e X.env) :: starEach [] X.env := by rfl) (hpl : (backTo pos (starEach [] X.env)).any (·.1) = false := by rfl) : XE X ρ (.Call (.Name "len" p) [e] [] pos) (.int l.length) :=
  PE.imp (pe_callB call_len_seq (B.gl hj) (B.none hm) PySem.boot_len (pa_cons ha pa_nil he) (he := he) (hpl := hpl)) fun σ H Q ⟨Bv, Bs, Hv, g, k⟩ => ⟨Bv, Bs, Hv, g, fun q xs H1 Hv1 g1 e1 h3 h4 => by
    refine ⟨q, xs, rfl, .inl h3, ?_⟩
    rw [rpL_len h4]
    exact k _ H1 Hv1 g1 e1 rp_v'⟩
theorem x_ixQ {i : Int} (ha : XQ X ρ a l) (hb : XE X ρ b (.int i)) (hi : atI l i = some d) (hs : PlainIx b := by exact fun _ _ => rfl) : XE X ρ (.Subscript a b pos) d :=
  PE.imp (pe_ix ix_list ha hb hs) fun σ H Q ⟨Bv, Bs, Hv, g, k⟩ => ⟨Bv, Bs, Hv, g, fun q xs H1 Hv1 g1 e1 h3 h4 => ⟨Bv, Bs, Hv1, g1, fun v2 H2 Hv2 g2 e2 r2 => by
    obtain ⟨u, h5, h6⟩ := atI_rel (rpL_mono e2.vv h4) hi
    exact ⟨q, xs, i, u, rfl, rp_v r2, Evl.ex_l e2.hh h3, h5, k u H2 Hv2 g2 (e1.trans e2) h6⟩⟩⟩
/-- list + list, whoever holds them -/
def rCatL (K : PySem.W.Frag) : R2 := fun x y H Q => ∃ l b xs zs, x = .ref l ∧ y = .ref b ∧ SqL K H l xs ∧ SqL K H b zs ∧ xs.length + zs.length ≤ sizeLine ∧ ∀ p, H p = none → Q (.ref p) (upd H p (.lst (xs ++ zs)))
theorem op_catL : OpR X (binaryOp .Add) (rCatL X.K) := by
  intro pins s σ H x y v u Q I rx ry h
  obtain ⟨l, b, xs, zs, rfl, rfl, hH, hB, hz, q⟩ := h
  cases rx
  cases ry
  obtain ⟨its, r, pl, hl⟩ := I.list hH
  obtain ⟨its2, r2, pl2, hl2⟩ := I.list hB
  obtain ⟨⟨cls, dd, data, sl⟩, ho, hc, n, hd⟩ := pl.isList
  obtain ⟨⟨cls2, dd2, data2, sl2⟩, ho2, hc2, n2, hd2⟩ := pl2.isList
  simp only at hc hd hc2 hd2
  subst hc hd hc2 hd2
  have e : its.toArray ++ its2.toArray = (its ++ its2).toArray := by simp
  have l1 := r.length
  have l2 := r2.length
  refine PySem.concat_meets ⟨_, ho, rfl⟩ ⟨_, ho2, rfl⟩ noFill_list_add seq_list_add PySem.F.slot_list_add PySem.F.entry_list_add (PySem.F.args_list_add_2 _ _) (PyProof.Rows.list_addW l b its.toArray its2.toArray n n2 dd dd2 sl sl2 (by rw [List.size_toArray, List.size_toArray]; omega)) ⟨ho, ho2, ?_⟩
  rw [e]
  exact ⟨.ref _, _, I.lnew (t' := s.toks) (r.append r2) (by rw [List.length_append]; omega), rfl, q _ I.fresh⟩
theorem x_catO (ha : XQ X ρ a l) (hb : XQ X ρ b m) (hl : l.length + m.length ≤ 100000) : XO X ρ (.BinOp a .Add b pos) (l ++ m) :=
  PE.imp (pe_op op_catL ha hb) fun σ H Q ⟨Bv, Bs, Hv, g, k⟩ => ⟨Bv, Bs, Hv, g, fun q xs H1 Hv1 g1 e1 h1 h2 => ⟨Bv, Bs, Hv1, g1, fun q2 ys H2 Hv2 g2 e2 h3 h4 => by
    refine ⟨q, q2, xs, ys, rfl, rfl, Evl.ex_l e2.hh h1, h3, Evl.sz_of (by rw [rpL_len h2, rpL_len h4]; exact hl), fun r hr => ?_⟩
    have x := e1.trans e2
    exact k r _ _ _ (g2.newH hr) (x.trans (Vx.newH g2.vx.vh hr)) (Evl.fresh_back g2.vx.hh hr) (Evl.fresh_back g2.vx.vh hr) upd_same (rpL_app (rpL_mono e2.vv h2) h4) (g2.notOwn_new hr) (Evl.fresh_back x.hh hr)⟩⟩
/-! ### slices -/
def cutD (xs : List D) (lo hi : Option Int) : List D := (xs.drop (HT.sIx xs.length 0 lo)).take (HT.sIx xs.length xs.length hi - HT.sIx xs.length 0 lo)
def tPt (K : PySem.W.Frag) (ρ : List E) (i : Option Int) : TO := fun σ H Q => ∃ Bv Bs Hv, Sg K Bv Bs Hv H ρ σ ∧ ∀ H' Hv', Sg K Bv Bs Hv' H' ρ σ → Vx Hv H Hv' H' → Q i H'
abbrev XP (X : Cx) (ρ : List E) (e : Option Expr) (i : Option Int) : Prop := PO X e (tPt X.K ρ i)
theorem PO.imp {e : Option Expr} {t t' : TO} (h : PO X e t) (i : ∀ σ H Q, t' σ H Q → t σ H Q) : PO X e t' := ⟨fun pins s σ H Q I w => h.run pins s σ H Q I (i σ H Q w)⟩
theorem xp_none : XP X ρ none none := PO.imp po_none fun σ H Q ⟨Bv, Bs, Hv, g, k⟩ => k H Hv g (Vx.refl g.vx.vh)
theorem xp_some {i : Int} (h : XE X ρ e (.int i)) : XP X ρ (some e) (some i) := PO.imp (po_some h) fun σ H Q ⟨Bv, Bs, Hv, g, k⟩ => ⟨Bv, Bs, Hv, g, fun v H' Hv' g' x r => ⟨i, rp_v r, k H' Hv' g' x⟩⟩
theorem x_sliceL {lo hi : Option Expr} {i j : Option Int} {p2 : Pos} (ha : XQ X ρ a l) (hl : XP X ρ lo i) (hh : XP X ρ hi j) : XO X ρ (.Subscript a (.Slice lo hi none p2) pos) (cutD l i j) :=
  PE.imp (pe_slice sl_list ha hl hh) fun σ H Q ⟨Bv, Bs, Hv, g, k⟩ => ⟨Bv, Bs, Hv, g, fun q xs H1 Hv1 g1 e1 h1 h2 => ⟨Bv, Bs, Hv1, g1, fun H2 Hv2 g2 e2 => ⟨Bv, Bs, Hv2, g2, fun H3 Hv3 g3 e3 => by
    refine ⟨q, xs, rfl, Evl.ex_l (e2.trans e3).hh h1, fun r hr => ?_⟩
    have x := (e1.trans e2).trans e3
    refine k r _ _ _ (g3.newH hr) (x.trans (Vx.newH g3.vx.vh hr)) (Evl.fresh_back g3.vx.hh hr) (Evl.fresh_back g3.vx.vh hr) upd_same ?_ (g3.notOwn_new hr) (Evl.fresh_back x.hh hr)
    have h2' := rpL_mono (e2.trans e3).vv h2
    have hlen := rpL_len h2'
    unfold cutV cutD
    rw [hlen]
    exact rpL_take _ (rpL_drop _ h2')⟩⟩⟩
/-- name = [..] on one row -/
theorem x_setLc (B : Bx X P w K mg base k N nk) (S : Bs X W) (i j : Nat) {scope : Scope} {own : List (Str × Nat)} {ifs : List Expr} {elt it : Expr} {rs : List D} {spos : Pos} (ok : BlkOk X.N X.env.scope scope own) (hi : XI X ρ tg it ds) (hl : ds.length ≤ 100000)
    (h : LcD X scope (own.map (·.2)) tg ifs elt (wipeE ρ (own.map (·.2))) ds rs) (t : XB X W (ρ.set i (.own rs)) more o) (hN : N[i]? = some s := by rfl) (hj : nk[j]? = some (s, .local) := by rfl)
    (hl2 : (p'.line == pos.line) = true := by rfl) (ha : (scope.names.any fun (n, k) => n == s && (k == .local || k == .cell)) = false := by decide +kernel)
    (hs : ∀ x, foldedSetIterable it X.env x = pure x := by intro _; rfl) : XB X W ρ (.Assign [.Name s p'] (.ListComp elt [⟨tg, it, ifs, 0⟩] scope pos) spos :: more) o := by
  have hy : X.env.scope.names.lookup s = some .local := by
    obtain ⟨kd', h1, rfl | ⟨z, _⟩⟩ := B.hs j s _ hj
    · exact h1
    · cases z
  exact xb_cons (xs_setLc i B.calm B.nd (B.at_ hN) hy ok (sw_true S.kd hy hl2 ha) hi hl h hs) t
/-- targets that are tuples -/
theorem x_asg (h : XE X ρ e d) (hg : XG X ρ tg d ρ1) (t : XB X W ρ1 more o) (hs : swapsWithSole [tg] e pos.line X.env = pure false := by rfl) (hw : swappedStores [tg] e X.env = pure none := by rfl) (h1 : (assignEach [tg] X.env).map (·.2) = [assign tg X.env] := by rfl) : XB X W ρ (.Assign [tg] e pos :: more) o :=
  xb_cons (xs_asg h hg hs hw h1) t
end
/-! ### loops by what they do -/
section
variable {X : Cx} {W : WX} {c : Expr} {body : List Stmt}
end
end PL
namespace PL
open PySem PySem.Spec L2
open Evl (Ex)
theorem wkL_refl : ∀ (ρ : List E), WkL ρ ρ
  | [] => .nil
  | e :: ρ => .cons (.same e) (wkL_refl ρ)
theorem wkL_set : ∀ {ρ ρ' : List E} (v : Nat), WkL ρ ρ' → WkL ρ (ρ'.set v .no)
  | [], _, v, h => by
    cases h
    exact .nil
  | e :: ρ, _, v, h => by
    cases h with
    | cons a b => cases v with
      | zero => exact .cons (.no _) b
      | succ v => exact .cons a (wkL_set v b)
theorem wkL_wipe (ρ : List E) : ∀ (vs : List Nat), WkL ρ (wipeE ρ vs)
  | [] => wkL_refl ρ
  | v :: vs => wkL_set v (wkL_wipe ρ vs)
section
variable {X : Cx} {P : Program} {w : World} {K : PySem.W.Frag} {mg : Str → Option Value} {base : Heap} {k k' n : Nat} {N : List Str} {nk : List (Str × NameKind)} {W : WX}
variable {ρ ρ' ρ1 ρ2 : List E} {e a b c tg : Expr} {es : List Expr} {d f : D} {ds l m : List D} {pos p p' : Pos} {s : Str} {o o1 : Out} {kd : NameKind} {φ : List D → Ro} {body sts other more : List Stmt} {st : Stmt} {Bo : Bool}
/-- a for that leaves its temporaries (slots vs) untold -/
theorem x_forW (B : Bx X P w K mg base k N nk) (S : Bs X W) (vs : List Nat) {it : Expr} (hi : XI X ρ tg it ds) (h : FoD X W tg body ds (wipeE ρ vs) (.nx ρ1)) (t : XB X W ρ1 more o) (hs : ∀ x, foldedSetIterable it X.env x = pure x := by intro _; rfl) : XB X W ρ (.For tg it body [] pos :: more) o :=
  x_for B S hi (.wk (wkL_wipe ρ vs) h) t hs
/-- comprehensions over a list given by a map -/
theorem lc_of {α : Type} {scope : Scope} {vs : List Nat} {elt : Expr} {F G : α → D} : ∀ {as : List α}, (∀ x ∈ as, ∃ ρ1, Blk X scope (fun Y => XGw Y vs ρ tg (F x) ρ1) ∧ Blk X scope (fun Y => XE Y ρ1 elt (G x))) → LcD X scope vs tg [] elt ρ (as.map F) (as.map G)
  | [], _ => .nil
  | d :: as, h => by
    obtain ⟨ρ1, h1, h2⟩ := h d List.mem_cons_self
    exact .keep h1 (fun _ _ _ _ _ => xts_nil) h2 (lc_of fun x hx => h x (List.mem_cons_of_mem _ hx))
theorem lc_rg {scope : Scope} {vs : List Nat} {elt : Expr} {G : Nat → D} {lo : Int} {n : Nat} (h : ∀ i, i < n → ∃ ρ1, Blk X scope (fun Y => XGw Y vs ρ tg (.int (lo + (i : Nat))) ρ1) ∧ Blk X scope (fun Y => XE Y ρ1 elt (G i))) : LcD X scope vs tg [] elt ρ (rgD lo n) ((List.range n).map G) :=
  lc_of fun x hx => h x (List.mem_range.mp hx)
end
end PL
namespace PL
open PySem PySem.Spec L2
open Evl (Ex)
section
variable {X : Cx} {P : Program} {w : World} {K : PySem.W.Frag} {mg : Str → Option Value} {base : Heap} {k k' n : Nat} {N : List Str} {nk : List (Str × NameKind)} {W : WX}
variable {ρ ρ' ρ1 ρ2 : List E} {e a b c tg : Expr} {es : List Expr} {d f : D} {ds l m : List D} {pos p p' : Pos} {s : Str} {o o1 : Out} {kd : NameKind} {φ : List D → Ro} {body sts other more : List Stmt} {st : Stmt} {Bo : Bool}
/-- a list unpacked -/
theorem xg_lst {tgs : List Expr} {m : Nat} (hc : X.calm = true) (h : XGs X ρ tgs ds ρ') (hl : ds.length = n) (hn : (assignEach tgs X.env).length = n := by rfl) (hst : (assignEach tgs X.env).findIdx? (·.1) = none := by rfl) : XG X ρ (.Tuple tgs m p) (.lst ds) ρ' :=
  PG.imp (pg_lst hc h hn hst) fun v σ H Q ⟨Bv, Bs, Hv, g, r, k⟩ => by
    obtain ⟨q, xs, rfl, h1, h2⟩ := rp_lst r
    exact ⟨q, xs, rfl, Evl.ex_l g.vx.vh h1, by rw [rpL_len h2, hl], Bv, Bs, Hv, g, h2, k⟩
/-- list(xs) of a list -/
theorem x_listQ (B : Bx X P w K mg base k N nk) (j : Nat) (hm : mg "list" = none) (ha : XQ X ρ e l) (hj : nk[j]? = some (("list" : Str), NameKind.globalImplicit) := by rfl) (he : starEach (e :: []) X.env = (false, eval e X.env) :: starEach [] X.env := by rfl) (hpl : (backTo pos (starEach [] X.env)).any (·.1) = false := by rfl) : XO X ρ (.Call (.Name "list" p) [e] [] pos) l :=
  PE.imp (pe_callTy call_list_of (B.gl hj) (B.none hm) boot_list (pa_cons ha pa_nil he) (he := he) (hpl := hpl)) fun σ H Q ⟨Bv, Bs, Hv, g, k⟩ => ⟨Bv, Bs, Hv, g, fun q xs H1 Hv1 g1 e1 h3 h4 => by
    refine ⟨q, xs, rfl, .inl h3, fun r hr => ?_⟩
    exact k r _ _ _ (g1.newH hr) (e1.trans (Vx.newH g1.vx.vh hr)) (Evl.fresh_back g1.vx.hh hr) (Evl.fresh_back g1.vx.vh hr) upd_same h4 (g1.notOwn_new hr) (Evl.fresh_back e1.hh hr)⟩
/-- an if whose ways meet in one frame -/
theorem xb_ifm (h : XT X ρ c Bo) (h1 : Bo = true → XB X W ρ sts (.nx ρ1)) (h2 : Bo = false → XB X W ρ other (.nx ρ1)) (t : XB X W ρ1 more o) : XB X W ρ (.If c sts other pos :: more) o :=
  xb_ifj (fun _ : Unit => ρ1) (fun _ => True) h (fun q => ⟨(), trivial, h1 q⟩) (fun q => ⟨(), trivial, h2 q⟩) fun _ _ => t
/-! the same with the frame behind it told -/
theorem x_setE (B : Bx X P w K mg base k N nk) (S : Bs X W) (i j : Nat) (h : XE X ρ e d) (hρ : ρ.set i (.val d) = ρ1) (t : XB X W ρ1 more o) (hi : N[i]? = some s := by rfl) (hj : nk[j]? = some (s, kd) := by rfl) (hl : isLoc kd = true := by rfl)
    (hs : swapsWith e (some (.Name s p')) pos.line X.env = pure false := by rfl) : XB X W ρ (.Assign [.Name s p'] e pos :: more) o := by
  subst hρ
  exact x_set B S i j h t hi hj hl hs
theorem x_setOE (B : Bx X P w K mg base k N nk) (S : Bs X W) (i j : Nat) (h : XO X ρ e l) (hρ : ρ.set i (.own l) = ρ1) (t : XB X W ρ1 more o) (hi : N[i]? = some s := by rfl) (hj : nk[j]? = some (s, kd) := by rfl) (hl : isLoc kd = true := by rfl)
    (hs : swapsWith e (some (.Name s p')) pos.line X.env = pure false := by rfl) : XB X W ρ (.Assign [.Name s p'] e pos :: more) o := by
  subst hρ
  exact x_setO B S i j h t hi hj hl hs
theorem x_setLcE (B : Bx X P w K mg base k N nk) (S : Bs X W) (i j : Nat) {scope : Scope} {own : List (Str × Nat)} {ifs : List Expr} {elt it : Expr} {rs : List D} {spos : Pos} (ok : BlkOk X.N X.env.scope scope own) (hi : XI X ρ tg it ds) (hl : ds.length ≤ 100000) (hρ0 : wipeE ρ (own.map (·.2)) = ρ2)
    (h : LcD X scope (own.map (·.2)) tg ifs elt ρ2 ds rs) (hρ : ρ.set i (.own rs) = ρ1) (t : XB X W ρ1 more o) (hN : N[i]? = some s := by rfl) (hj : nk[j]? = some (s, .local) := by rfl)
    (hl2 : (p'.line == pos.line) = true := by rfl) (ha : (scope.names.any fun (n, k) => n == s && (k == .local || k == .cell)) = false := by decide +kernel)
    (hs : ∀ x, foldedSetIterable it X.env x = pure x := by intro _; rfl) : XB X W ρ (.Assign [.Name s p'] (.ListComp elt [⟨tg, it, ifs, 0⟩] scope pos) spos :: more) o := by
  subst hρ hρ0
  exact x_setLc B S i j ok hi hl h t hN hj hl2 ha hs
theorem x_puE (B : Bx X P w K mg base k N nk) (i j : Nat) {ap p1 : Pos} (hr : ρ[i]? = some (.own l)) (h : XE X ρ e d) (hl : l.length < 100000) (hρ : ρ.set i (.own (l ++ [d])) = ρ1) (t : XB X W ρ1 more o) (hi : N[i]? = some s := by rfl) (hj : nk[j]? = some (s, kd) := by rfl) (hv : isVis kd = true := by rfl) (hd : (s == ("__debug__" : Str)) = false := by decide +kernel) (hcd : (s == ("__classdict__" : Str)) = false := by decide +kernel)
    (hbase : attributeBase (.Name s p') "append" X.env (eval (.Name s p') X.env) = eval (.Name s p') X.env := by rfl)
    (hfew : ((backTo p1 (starEach (e :: []) X.env)).all (fun x => !x.1) && (backToKw p1 (keywordEach [] X.env)).all (fun x => x.1.isSome)
      && decide ((e :: ([] : List Expr)).length + ([] : List Keyword).length + (if ([] : List Keyword).isEmpty then 0 else 1) < 30)) = true := by rfl)
    (hline : (ap.endLine == p1.line) = true := by rfl) (hs' : starEach (e :: []) X.env = (false, eval e X.env) :: starEach [] X.env := by rfl) (hplain : (backTo p1 (starEach [] X.env)).any (·.1) = false := by rfl)
    (hs : swapsWith (.Call (.Attribute (.Name s p') "append" ap) [e] [] p1) none pos.line X.env = pure false := by rfl) :
    XB X W ρ (.Expr (.Call (.Attribute (.Name s p') "append" ap) [e] [] p1) pos :: more) o := by
  subst hρ
  exact x_push B i j h hl t hr hi hj hv hd hcd hbase hfew hline hs' hplain hs
theorem x_forE (B : Bx X P w K mg base k N nk) (S : Bs X W) (vs : List Nat) {it : Expr} (hi : XI X ρ tg it ds) (hρ : wipeE ρ vs = ρ2) (h : FoD X W tg body ds ρ2 (.nx ρ1)) (t : XB X W ρ1 more o) (hs : ∀ x, foldedSetIterable it X.env x = pure x := by intro _; rfl) : XB X W ρ (.For tg it body [] pos :: more) o := by
  subst hρ
  exact x_forW B S vs hi h t hs
theorem xo_lcE (B : Bx X P w K mg base k N nk) {scope : Scope} {own : List (Str × Nat)} {ifs : List Expr} {elt it : Expr} {rs : List D} (ok : BlkOk X.N X.env.scope scope own) (hi : XI X ρ tg it ds) (hl : ds.length ≤ 100000) (hρ0 : wipeE ρ (own.map (·.2)) = ρ2)
    (h : LcD X scope (own.map (·.2)) tg ifs elt ρ2 ds rs) (hs : ∀ x, foldedSetIterable it X.env x = pure x := by intro _; rfl) : XO X ρ (.ListComp elt [⟨tg, it, ifs, 0⟩] scope pos) rs := by
  subst hρ0
  exact xo_lc B.calm B.nd ok hi hl h hs
theorem xb_freezeE (i : Nat) (hi : ρ[i]? = some (.own l)) (hρ : ρ.set i (.val (.lst l)) = ρ1) (h : XB X W ρ1 sts o) : XB X W ρ sts o := by
  subst hρ
  exact xb_freeze i hi h
theorem lay_ints : ∀ (ns : List Int), PyData.canLayAll0 (ns.map PyData.int) = true ∧ PyData.depthAll (ns.map PyData.int) = 0
  | [] => ⟨rfl, rfl⟩
  | n :: ns => by
    have h := lay_ints ns
    simp only [List.map_cons, PyData.canLayAll0, PyData.canLay0, PyData.depthAll, PyData.depth, h.1, h.2]
    decide
theorem shaped_ints (ns : List Int) : SeqAt.shaped (.list (ns.map PyData.int)) = true := by
  have h := lay_ints ns
  unfold SeqAt.shaped
  simp only [PyData.canLay0, PyData.depth, h.1, h.2]
  decide
theorem toPy_ints (ns : List Int) : toPy (.lst (ns.map D.int)) = some (.list (ns.map PyData.int)) := by
  unfold toPy
  rw [toPyL_ints]
  rfl
theorem eqD_ints (ns ms : List Int) : EqD (.lst (ns.map D.int)) (.lst (ms.map D.int)) (decide (ns = ms)) :=
  ⟨⟨_, _, toPy_ints ns, toPy_ints ms, shaped_ints ns, shaped_ints ms, by
    show PyData.eqvAll (ns.map PyData.int) (ms.map PyData.int) = _
    exact eqvAll_ints ns ms⟩⟩
theorem getD_map' (ns : List Int) (i : Nat) (z : Int) : (ns.map D.int).getD i (.int z) = .int (ns.getD i z) := by
  rw [List.getD_eq_getElem?_getD, List.getD_eq_getElem?_getD, List.getElem?_map]
  cases ns[i]? <;> rfl
end
end PL
/-! ranges of any size -/
namespace PL
open PySem PySem.Spec PyProof.Rows L2
open Evl (Ex)
section
variable {X : Cx} {tg : Expr}
end
section
variable {X : Cx} {P : Program} {w : World} {K : PySem.W.Frag} {mg : Str → Option Value} {base : Heap} {k k' n : Nat} {N : List Str} {nk : List (Str × NameKind)} {W : WX}
variable {ρ ρ' ρ1 ρ2 : List E} {e a b c tg : Expr} {es : List Expr} {d f : D} {ds l m : List D} {pos p p' : Pos}
end
end PL
/-! in, list(range), reverse, a list's item stored -/
namespace PL
open PySem PySem.Spec L2
open Evl (Ex)
section
variable {X : Cx} {P : Program} {w : World} {K : PySem.W.Frag} {mg : Str → Option Value} {base : Heap} {k k' n : Nat} {N : List Str} {nk : List (Str × NameKind)} {W : WX}
variable {ρ ρ' ρ1 ρ2 : List E} {e a b c tg : Expr} {es : List Expr} {d f : D} {ds l m : List D} {pos p p' : Pos} {s : Str} {o o1 : Out} {kd : NameKind} {φ : List D → Ro} {body sts other more : List Stmt} {st : Stmt} {Bo : Bool}
/-- xs[e] = v, xs a list of one's own -/
theorem x_stE {i : Int} {q : Nat} {ei : Expr} {p1 tpos : Pos} (B : Bx X P w K mg base k N nk) (u j : Nat) (hr : ρ[u]? = some (.own l)) (h : XE X ρ e d) (hi : XE X ρ ei (.int i)) (hq : ixN l.length i = some q) (hρ : ρ.set u (.own (l.set q d)) = ρ1) (t : XB X W ρ1 more o)
    (hu : N[u]? = some s := by rfl) (hj : nk[j]? = some (s, kd) := by rfl) (hv : isVis kd = true := by rfl) (hd : (s == ("__debug__" : Str)) = false := by decide +kernel) (hcd : (s == ("__classdict__" : Str)) = false := by decide +kernel)
    (ha : ∀ v, assign (.Subscript (.Name s p1) ei tpos) X.env v = (do
      let ov ← holding [v] (eval (.Name s p1) X.env)
      let iv ← holding [v, ov] (eval ei X.env)
      standAt tpos
      holding [v, ov, iv] (setItem ov iv v)
      release [v, ov, iv] []) := by intro _; rfl)
    (hs : swapsWithSole [.Subscript (.Name s p1) ei tpos] e pos.line X.env = pure false := by rfl) (hw : swappedStores [.Subscript (.Name s p1) ei tpos] e X.env = pure none := by rfl) (h1 : (assignEach [.Subscript (.Name s p1) ei tpos] X.env).map (·.2) = [assign (.Subscript (.Name s p1) ei tpos) X.env] := by rfl) :
    XB X W ρ (.Assign [.Subscript (.Name s p1) ei tpos] e pos :: more) o := by
  subst hρ
  refine xb_cons (PS.imp (ps_asg h (pg_sub (pe_var (i := u) (B.at_ hu) (B.vis hj hv) hd hcd) hi set_list ha) hs hw h1) fun D σ H ⟨Bv, Bs, Hv, g, k⟩ => ⟨Bv, Bs, Hv, g, fun v H1 Hv1 g1 e1 r1 => ?_⟩) t
  obtain ⟨q1, xs, z1, z2, z3, z4, z5⟩ := g1.own hr
  refine ⟨.ref q1, z1, Bv, Bs, Hv1, g1, fun v2 H2 Hv2 g2 e2 r2 => ?_⟩
  obtain ⟨q2, ys, y1, y2, y3, y4, y5⟩ := g2.own hr
  rw [z1] at y1
  cases y1
  refine ⟨q1, ys, i, q, rfl, rp_v r2, y4, by rw [rpL_len y5]; exact hq, ?_⟩
  exact k _ _ Hv2 (g2.upd hr z1 (rpL_set q y5 (rp_mono e2.vv r1)))
end
end PL
/-! exceptions: raise, try, what a suite asks of the caught one -/
namespace PL
open PySem PySem.Spec L2
open Evl (Ex)
abbrev veM : List Value := [.type "ValueError", .type "Exception", .type "BaseException", .type "object"]
structure ExCls (K : PySem.W.Frag) (mg : Str → Option Value) (x : Str) (C : Addr) : Prop where
  mg_ : mg x = some (.ref C)
  kp : PySem.W.keepIn K (.ref C) = true
  sub : PySem.W.subIn K (.ref C) (.type "BaseException") = some true
  ty : PySem.W.typeIn K (.ref C) = some (.type "type")
  hd : PySem.W.hasDictIn K C = true
  ga : PySem.W.findIn K (.ref C) "__getattribute__" = some (some (.builtin "BaseException.__getattribute__"))
  gg : PySem.W.findIn K (.ref C) "__getattr__" = some none
  ca : PySem.W.findIn K (.ref C) "__class__" = some (some (.builtin "object.__class__"))
  cn : PySem.W.specialIn K (.builtin "object.__class__") "__get__" = some (some (.builtin "getset_descriptor.__get__"))
  ct : PySem.W.takesIn K (.builtin "object.__class__") = some true
  mo : PySem.W.mroIn K C (.type "object") = some true
theorem exCls_mk {K : PySem.W.Frag} {h : Heap} {mg : Str → Option Value} {x : Str} {C : Addr} (X : K.In h) (G : h.Ns mainGlobals mg) (n : PySem.W.nsIn K mainGlobals x = some (some (.ref C))) (b1 : PySem.W.keepIn K (.ref C) = true) (b2 : PySem.W.subIn K (.ref C) (.type "BaseException") = some true) (b3 : PySem.W.typeIn K (.ref C) = some (.type "type")) (b4 : PySem.W.hasDictIn K C = true)
    (b5 : PySem.W.findIn K (.ref C) "__getattribute__" = some (some (.builtin "BaseException.__getattribute__"))) (b6 : PySem.W.findIn K (.ref C) "__getattr__" = some none) (b7 : PySem.W.findIn K (.ref C) "__class__" = some (some (.builtin "object.__class__"))) (b10 : PySem.W.mroIn K C (.type "object") = some true)
    (b8 : PySem.W.specialIn K (.builtin "object.__class__") "__get__" = some (some (.builtin "getset_descriptor.__get__"))) (b9 : PySem.W.takesIn K (.builtin "object.__class__") = some true) : ExCls K mg x C :=
  ⟨PySem.W.mg_of X G n, b1, b2, b3, b4, b5, b6, b7, b8, b9, b10⟩
/-- a slot gets what is no own list -/
theorem Sg.setAt {K : PySem.W.Frag} {Bv Bs Hv H : Hp} {ρ : List E} {σ : L2.St} (g : Sg K Bv Bs Hv H ρ σ) {i : Nat} {e : E} {o : Option V} (hn : isOwn e = false) (h : At K Bs Hv H e o) : Sg K Bv Bs Hv H (ρ.set i e) (σ.set i o) := by
  refine ⟨g.vx, by rw [List.length_set, List.length_set, g.len], fun j e' hj => ?_, fun j k l l' p h1 h2 h3 h4 => ?_⟩
  · by_cases hij : i = j
    · subst hij
      have hl : i < ρ.length := by
        have := (List.getElem?_eq_some_iff.mp hj).1
        rwa [List.length_set] at this
      rw [List.getElem?_set_self hl] at hj
      cases hj
      exact ⟨o, List.getElem?_set_self (by rw [g.len]; exact hl), h⟩
    · rw [List.getElem?_set_ne hij] at hj
      rw [List.getElem?_set_ne hij]
      exact g.at_ j e' hj
  · have n1 : ∀ {j : Nat} {l : List D}, (ρ.set i e)[j]? = some (.own l) → i ≠ j := fun {j l} h1 z => by
      subst z
      have hl : i < ρ.length := by
        have := (List.getElem?_eq_some_iff.mp h1).1
        rwa [List.length_set] at this
      rw [List.getElem?_set_self hl] at h1
      cases h1
      cases hn
    have m1 := n1 h1
    have m2 := n1 h2
    rw [List.getElem?_set_ne m1] at h1 h3
    rw [List.getElem?_set_ne m2] at h2 h4
    exact g.sep j k l l' p h1 h2 h3 h4
section
variable {X : Cx} {P : Program} {w : World} {K : PySem.W.Frag} {mg : Str → Option Value} {base : Heap} {k k' n : Nat} {N : List Str} {nk : List (Str × NameKind)} {W : WX}
variable {ρ ρ' ρ1 ρ2 : List E} {e a b c tg : Expr} {es : List Expr} {d f : D} {ds l m : List D} {pos p p' : Pos} {s : Str} {o o1 : Out} {kd : NameKind} {φ : List D → Ro} {body sts other more : List Stmt} {st : Stmt} {Bo : Bool} {C F : Addr}
theorem ExCls.raises (T : ExCls K mg s C) (hK : X.K = K) : Raises X (.ref C) := raises_own (by rw [hK]; exact T.sub) (by rw [hK]; exact T.ty)
theorem x_exprX {ns : List Str} {xs : List D} (h : XX X W ρ e C ns xs) (hs : swapsWith e none pos.line X.env = pure false := by rfl) : XB X W ρ (.Expr e pos :: more) (.exc C ns xs ρ) := xb_stop (xs_exprX h hs) trivial
/-! ### try -/
theorem takesN_of {X : Cx} {W : WX} (t : L2.Takes X W) : L2N.Takes X W := fun u s' x => by
  obtain ⟨a, B, sI, pins, σ, H, cls, d, rfl, I, nb, up, sky, na, os, ag, w⟩ := x
  refine t _ _ ⟨a, B, sI, pins, σ, H, cls, d, rfl, I, nb, up, ?_, na, os, ag, w⟩
  rcases sky with ⟨hB, hn, hl, oe, vs, he, hz, hd, h1⟩ | fl | hd
  · exact .inl ⟨hB, hn, hl, oe, vs, he, hz.zc, hd, h1⟩
  · exact .inr (.inl (L2H.flyingZ_imp (fun o z => z.zc) fl))
  · exact .inr (.inr ⟨hd.1, hd.2.1, hd.2.2.1, L2H.tracedZ_imp (fun o z => z.zc) hd.2.2.2⟩)
def W0 : WX := fun _ _ _ _ => False
theorem takesW0 {X : Cx} : L2.Takes X W0 := takes0
def noExc : Out → Prop
  | .exc _ _ _ _ => False
  | _ => True
theorem Bx.tr (B : Bx X P w K mg base k N nk) (pn : List (Addr × Obj)) (xe : Value → Shared → Prop) : Bx (X.tr pn xe) P w K mg base k N nk := ⟨B.hP, B.hw, B.hK, B.hm, B.hb, B.room, B.calm, B.hN, B.hs, B.nd⟩
theorem Bs.tr {W' : WX} (S : Bs X W) {pn : List (Addr × Obj)} {xe : Value → Shared → Prop} (tk : L2N.Takes (X.tr pn xe) W') (po : PassesOwn (model X.prog X.w) X.A X.env xe) : Bs (X.tr pn xe) W' := ⟨po, tk, S.fn, S.kd, S.st, S.fr⟩
theorem Fin.noX {K : PySem.W.Frag} {W W' : WX} {Bv Bs : Hp} {D : Ends} {o : Out} (h : Fin K W Bv Bs D o) (q : noExc o) : Fin K W' Bv Bs D o := by
  cases o with
  | exc => exact q.elim
  | _ => exact h
/-- what stands around an except suite -/
structure Hx (Y X : Cx) (K : PySem.W.Frag) (mg : Str → Option Value) (N : List Str) (nk : List (Str × NameKind)) (C a : Addr) (od : Option Addr) : Prop where
  hY : ∃ oe pn, Y = X.suite a ((a, oe) :: pn) ∧ Zc (.ref C) od oe ∧ ∃ vs, oe.data = .fields vs
  hK : Y.K = K
  hm : Y.mg = mg
  hN : Y.N = N
  hs : ∀ (j : Nat) (s : Str) (kd : NameKind), nk[j]? = some (s, kd) → ∃ kd', Y.env.scope.names.lookup s = some kd' ∧ (kd' = kd ∨ (kd = .free ∧ kd' = .cell))
  nd : Y.N.Nodup
/-- what the try makes of its suite's outcome: the name goes -/
def outAs (i : Nat) : Out → Out
  | .nx ρ => .nx (ρ.set i .no)
  | .bk ρ => .bk (ρ.set i .no)
  | .ct ρ => .ct (ρ.set i .no)
  | o => o
theorem Fin.suiteAs {K : PySem.W.Frag} {Bv Bs : Hp} {D : Ends} (i : Nat) (h : Fin K W Bv Bs D (outAs i o)) (q : noExc o) : Fin K W0 Bv Bs { nx := fun σ' H' => D.nx (σ'.set i none) H', rt := D.rt, bk := fun σ' H' => D.bk (σ'.set i none) H', ct := fun σ' H' => D.ct (σ'.set i none) H' } o := by
  cases o with
  | exc => exact q.elim
  | nx ρ => exact fun σ H Hv g => h _ H Hv (g.no i)
  | bk ρ => exact fun σ H Hv g => h _ H Hv (g.no i)
  | ct ρ => exact fun σ H Hv g => h _ H Hv (g.no i)
  | ret d => exact h
  | retO l => exact h
  | retP a b => exact h
theorem xs_tryAs {x y : Str} {np pos' : Pos} {b₀ : Stmt} {suite : List Stmt} {ns : List Str} {xs : List D} {oS : Out} (B : Bx X P w K mg base k N nk) (S : Bs X W) (T : ExCls K mg x F) (i j j2 : Nat)
    (hb : ∀ (Y : Cx) (W' : WX), Bx Y P w K mg base k N nk → Bs Y W' → Y.env = X.env → XB Y W' ρ body (.exc C ns xs ρ1)) (hex : PySem.W.exmOne K (.ref C) (.ref F) = some true)
    (hsu : ∀ (Y : Cx) (a : Addr) (od : Option Addr), Hx Y X K mg N nk C a od → XB Y W0 (ρ1.set i (.exc a od ns xs)) (b₀ :: suite) oS) (q : noExc oS)
    (hi : N[i]? = some y := by rfl) (hj2 : nk[j2]? = some (y, .local) := by rfl) (hj : nk[j]? = some (x, .globalImplicit) := by rfl) (hd : (x == ("__debug__" : Str)) = false := by decide +kernel) :
    XS X W ρ (.Try body [.ExceptHandler (some (.Name x np)) (some y) (b₀ :: suite) pos'] [] [] pos) (outAs i oS) := by
  refine PS.imp (ps_try_as (tb := fun W' => tS X.K W' ρ (.exc C ns xs ρ1)) (ts := fun a cls od => fun D σ H => ∃ t : TS, (∀ (oe : Obj) (pn : List (Addr × Obj)), Zc cls od oe → (∃ vs, oe.data = .fields vs) → PSs (X.suite a ((a, oe) :: pn)) (b₀ :: suite) t) ∧ t D σ H)
    S.st S.fr B.nd (B.at_ hi) (B.lookup_loc hj2) (c := .ref F) ⟨B.gl hj, hd, .inl (by rw [B.hm]; exact T.mg_)⟩ (takesW0) (fun W' pn xe tk po => hb _ W' (B.tr pn xe) (S.tr (takesN_of tk) po) rfl)
    fun a oe cls od pn hz hf => ⟨fun pins s σ H D I ⟨t, h, w⟩ => (h oe pn hz hf).run pins s σ H D I w⟩) fun D σ H ⟨Bv, Bs, Hv, g, k⟩ => ⟨Bv, Bs, Hv, g, fun od σ' H' Hv' g' x' => ?_⟩
  refine ⟨true, by rw [B.hK]; exact hex, fun _ a na => ?_, nofun⟩
  refine ⟨tS X.K W0 (ρ1.set i (.exc a od ns xs)) oS, fun oe pn hz hf => hsu _ a od ⟨⟨oe, pn, rfl, hz, hf⟩, B.hK, B.hm, B.hN, B.hs, B.nd⟩, Bv, Bs, Hv', g'.setAt rfl ⟨rfl, x'⟩, ?_⟩
  exact Fin.suiteAs i k q
/-! ### in a suite -/
theorem Hx.vis {Y : Cx} {a : Addr} {od : Option Addr} (B : Hx Y X K mg N nk C a od) {j : Nat} (hj : nk[j]? = some (s, kd)) (h : isVis kd = true) : Vis Y.env.scope s := by
  obtain ⟨kd', h1, rfl | ⟨rfl, rfl⟩⟩ := B.hs j s kd hj
  · cases kd' with
    | «local» => exact .inl h1
    | cell => exact .inr (.inl h1)
    | free => exact .inr (.inr h1)
    | _ => cases h
  · exact .inr (.inl h1)
theorem Hx.gl {Y : Cx} {a : Addr} {od : Option Addr} (B : Hx Y X K mg N nk C a od) {j : Nat} (hj : nk[j]? = some (s, .globalImplicit)) : Gl Y s := by
  obtain ⟨kd', h1, rfl | ⟨z, _⟩⟩ := B.hs j s _ hj
  · exact h1
  · cases z
theorem Hx.at_ {Y : Cx} {a : Addr} {od : Option Addr} (B : Hx Y X K mg N nk C a od) {i : Nat} (h : N[i]? = some s) : Y.N[i]? = some s := by
  rw [B.hN]
  exact h
theorem Hx.none {Y : Cx} {a : Addr} {od : Option Addr} (B : Hx Y X K mg N nk C a od) (h : mg s = none) : Y.mg s = none := by
  rw [B.hm]
  exact h
/-- the dict of the caught one stands -/
def DctAt (H : Hp) (od : Option Addr) : Prop := od = none ∨ ∃ dd fs, od = some dd ∧ H dd = some (.xd fs)
theorem ExAt.dct {Hv H : Hp} {ns : List Str} {xs : List D} {od : Option Addr} (h : ExAt K Hv ns xs od) (e : Ex Hv H) : DctAt H od := by
  rcases h with ⟨_, _, h⟩ | ⟨dd, ys, h1, h2, _, _⟩
  · exact .inl h
  · exact .inr ⟨dd, _, h1, e _ _ h2⟩
theorem instAt_suite {a D : Addr} {od : Option Addr} {oe : Obj} {pn pins : List (Addr × Obj)} {σ : L2.St} {H : Hp} {sh : Shared} (I : Inv (X.suite a ((a, oe) :: pn)) pins σ H sh) (hz : Zc (.ref D) od oe) (hf : ∃ vs, oe.data = .fields vs) (hd : DctAt H od) : ∃ q, PySem.W.InstAt sh.heap a oe D q := by
  obtain ⟨hget, _⟩ := I.pin (a, oe) (List.mem_append.mpr (.inl List.mem_cons_self))
  obtain ⟨vs, hv⟩ := hf
  rcases hd with rfl | ⟨dd, fs, rfl, hH⟩
  · obtain ⟨oc, odc, oda, osl⟩ := oe
    obtain ⟨h1, h2⟩ := hz
    dsimp only at h1 h2 hv
    subst h1 h2 hv
    exact ⟨none, hget, rfl, rfl, trivial⟩
  · have hx : ObjOk X.prog X.w H sh.heap dd (.xd fs) := I.hok dd _ hH
    obtain ⟨mA, hns, hr⟩ := hx
    obtain ⟨ob, ho, hl⟩ := lookIn_ns hns
    exact ⟨some ob, hget, hz.1, by unfold PySem.W.notCls; rw [hv] <;> rfl, by rw [hz.2]; exact ho⟩
/-- isinstance(e, c), e the caught one; c one class, or a tuple of them -/
def rIsX (K : PySem.W.Frag) (D a : Addr) (d : Option Addr) : List V → Hp → VK → Prop := fun xs H Q => ∃ (c : V) (cv : Value) (r : Bool), xs = [.ref a, c] ∧ ClsV c cv ∧ PySem.W.kitOne K (.ref D) cv = some r ∧ DctAt H d ∧ Q (.bl r) H
theorem call_isX {a D : Addr} {od : Option Addr} {oe : Obj} {pn : List (Addr × Obj)} (T : ExCls X.K mg s D) (hz : Zc (.ref D) od oe) (hf : ∃ vs, oe.data = .fields vs) : CallR (X.suite a ((a, oe) :: pn)) (.builtin "isinstance") (rIsX X.K D a od) := by
  intro pins sh σ H xs us Q I r h
  obtain ⟨c, cv, b, rfl, hcv, e, hd, q⟩ := h
  cases r with
  | cons rx rr =>
    cases rr with
    | cons rt rr =>
      cases rr
      cases rx
      have ec := hcv.eq rt
      subst ec
      obtain ⟨q1, J⟩ := instAt_suite I hz hf hd
      exact PySem.W.kia_one (PySem.W.kitx_exc (by obtain ⟨cd, hc, _⟩ := PySem.W.any_some T.hd; rw [hc]; rfl) T.ga T.gg T.sub T.ca T.cn T.ct T.mo) I.kIn J e (fun z => nomatch z) fun tk => ⟨.bl b, H, I.kept (t' := tk) fun _ _ z => z, rfl, q⟩
def rIsXT (K : PySem.W.Frag) (D a : Addr) (d : Option Addr) : List V → Hp → VK → Prop := fun xs H Q => ∃ (tp : Addr) (cs : List V) (us : List Value) (r : Bool), xs = [.ref a, .ref tp] ∧ SqT K H tp cs ∧ Paired ClsV cs us ∧ PySem.W.kitAny K (.ref D) us = some r ∧ DctAt H d ∧ Q (.bl r) H
theorem call_isXT {a D : Addr} {od : Option Addr} {oe : Obj} {pn : List (Addr × Obj)} (T : ExCls X.K mg s D) (hz : Zc (.ref D) od oe) (hf : ∃ vs, oe.data = .fields vs) : CallR (X.suite a ((a, oe) :: pn)) (.builtin "isinstance") (rIsXT X.K D a od) := by
  intro pins sh σ H xs us Q I r h
  obtain ⟨tp, cs, ws, b, rfl, hT, kk, e, hd, q⟩ := h
  cases r with
  | cons rx rr =>
    cases rr with
    | cons rt rr =>
      cases rr
      cases rx
      cases rt
      obtain ⟨q1, J⟩ := instAt_suite I hz hf hd
      obtain ⟨its, rv, pl, _⟩ := I.tuple hT
      have e3 := ClsV.all kk rv
      subst e3
      obtain ⟨ob, h1, h2, n, h3⟩ := pl
      obtain ⟨oc, ocd, dt, sl⟩ := ob
      simp only at h2 h3
      subst h2 h3
      exact PySem.W.kia_tup (PySem.W.kitx_exc (by obtain ⟨cd, hc, _⟩ := PySem.W.any_some T.hd; rw [hc]; rfl) T.ga T.gg T.sub T.ca T.cn T.ct T.mo) I.kIn J h1 e (fun z => nomatch z) fun tk => ⟨.bl b, H, I.kept (t' := tk) fun _ _ z => z, rfl, q⟩
/-- names of data, classes in a suite -/
theorem h_var {Y : Cx} {a : Addr} {od : Option Addr} (B : Hx Y X K mg N nk C a od) (i j : Nat) (hr : ρ[i]? = some (.val d) := by rfl) (hi : N[i]? = some s := by rfl) (hj : nk[j]? = some (s, kd) := by rfl) (hv : isVis kd = true := by rfl) (hd : (s == ("__debug__" : Str)) = false := by decide +kernel) (hcd : (s == ("__classdict__" : Str)) = false := by decide +kernel) : XE Y ρ (.Name s pos) d :=
  xe_name i (B.at_ hi) (B.vis hj hv) hr hd hcd
theorem h_cls {Y : Cx} {a : Addr} {od : Option Addr} (B : Hx Y X K mg N nk C a od) (j : Nat) (T : mg s = some (.ref F)) (hj : nk[j]? = some (s, .globalImplicit) := by rfl) (hd : (s == ("__debug__" : Str)) = false := by decide +kernel) : XE Y ρ (.Name s pos) (.v (.ref F)) :=
  xe_glob (B.gl hj) (by rw [B.hm]; exact T) rfl hd
theorem h_bcl {Y : Cx} {a : Addr} {od : Option Addr} {id : String} (B : Hx Y X K mg N nk C a od) (j : Nat) (hm : mg s = none) (hv : bootBuiltins s = some (.type id)) (hj : nk[j]? = some (s, .globalImplicit) := by rfl) (hn : s ≠ "__name__" := by decide +kernel) (hd : (s == ("__debug__" : Str)) = false := by decide +kernel) : XE Y ρ (.Name s pos) (.v (.ty id)) :=
  xe_of (pe_bltn (B.gl hj) (B.none hm) hv (show RelV (.ty id) (.type id) from rfl) hn hd) fun _ _ _ q => q
/-- the caught one, handed to isinstance with one class -/
theorem h_is {Y : Cx} {a : Addr} {od : Option Addr} {ns : List Str} {xs : List D} {y : Str} {ce : Expr} {py : Pos} {cv : V} {u : Value} {x : Str} (B : Hx Y X K mg N nk C a od) (T : ExCls K mg x C) (i j j2 : Nat) (hm : mg "isinstance" = none) (hc : XE Y ρ ce (.v cv)) (hcl : ClsV cv u) (hr : PySem.W.kitOne K (.ref C) u = some Bo)
    (hρ : ρ[i]? = some (.exc a od ns xs) := by rfl) (hi : N[i]? = some y := by rfl) (hj2 : nk[j2]? = some (y, kd) := by rfl) (hv : isVis kd = true := by rfl) (hj : nk[j]? = some (("isinstance" : Str), NameKind.globalImplicit) := by rfl) (hd : (y == ("__debug__" : Str)) = false := by decide +kernel) (hcd : (y == ("__classdict__" : Str)) = false := by decide +kernel)
    (he : starEach [.Name y py, ce] Y.env = (false, eval (.Name y py) Y.env) :: starEach [ce] Y.env := by rfl) (he2 : starEach [ce] Y.env = (false, eval ce Y.env) :: starEach [] Y.env := by rfl) (hpl : (backTo pos (starEach [ce] Y.env)).any (·.1) = false := by rfl) :
    XE Y ρ (.Call (.Name "isinstance" p) [.Name y py, ce] [] pos) (.bl Bo) := by
  obtain ⟨oe, pn, rfl, hz, hf⟩ := B.hY
  have hK : X.K = K := B.hK
  subst hK
  refine PE.imp (pe_callB (call_isX T hz hf) (B.gl hj) (B.none hm) PyProof.Rows.boot_isinstance (pa_cons (pe_var (i := i) (B.at_ hi) (B.vis hj2 hv) hd hcd) (pa_cons hc pa_nil he2) he) (he := he) (hpl := hpl)) fun σ H Q ⟨Bv, Bs, Hv, g, kk⟩ => ?_
  obtain ⟨o', h1, h2, h3⟩ := g.at_ i _ hρ
  subst h2
  refine ⟨.ref a, h1, Bv, Bs, Hv, g, fun v H1 Hv1 g1 e1 r1 => ?_⟩
  rw [rp_v r1]
  exact ⟨cv, u, Bo, rfl, hcl, hr, (h3.mono e1.vv).dct g1.vx.vh, kk _ H1 Hv1 g1 e1 rp_v'⟩
/-- .. with a tuple of classes -/
theorem h_isT {Y : Cx} {a : Addr} {od : Option Addr} {ns : List Str} {xs : List D} {y : Str} {ce : Expr} {py : Pos} {cvs : List V} {us : List Value} {x : Str} (B : Hx Y X K mg N nk C a od) (T : ExCls K mg x C) (i j j2 : Nat) (hm : mg "isinstance" = none) (hc : XE Y ρ ce (.tup ds)) (hcl : Paired ClsV cvs us) (hr : PySem.W.kitAny K (.ref C) us = some Bo) (hds : ds = cvs.map D.v := by rfl)
    (hρ : ρ[i]? = some (.exc a od ns xs) := by rfl) (hi : N[i]? = some y := by rfl) (hj2 : nk[j2]? = some (y, kd) := by rfl) (hv : isVis kd = true := by rfl) (hj : nk[j]? = some (("isinstance" : Str), NameKind.globalImplicit) := by rfl) (hd : (y == ("__debug__" : Str)) = false := by decide +kernel) (hcd : (y == ("__classdict__" : Str)) = false := by decide +kernel)
    (he : starEach [.Name y py, ce] Y.env = (false, eval (.Name y py) Y.env) :: starEach [ce] Y.env := by rfl) (he2 : starEach [ce] Y.env = (false, eval ce Y.env) :: starEach [] Y.env := by rfl) (hpl : (backTo pos (starEach [ce] Y.env)).any (·.1) = false := by rfl) :
    XE Y ρ (.Call (.Name "isinstance" p) [.Name y py, ce] [] pos) (.bl Bo) := by
  subst hds
  obtain ⟨oe, pn, rfl, hz, hf⟩ := B.hY
  have hK : X.K = K := B.hK
  subst hK
  refine PE.imp (pe_callB (call_isXT T hz hf) (B.gl hj) (B.none hm) PyProof.Rows.boot_isinstance (pa_cons (pe_var (i := i) (B.at_ hi) (B.vis hj2 hv) hd hcd) (pa_cons hc pa_nil he2) he) (he := he) (hpl := hpl)) fun σ H Q ⟨Bv, Bs, Hv, g, kk⟩ => ?_
  obtain ⟨o', h1, h2, h3⟩ := g.at_ i _ hρ
  subst h2
  refine ⟨.ref a, h1, Bv, Bs, Hv, g, fun v H1 Hv1 g1 e1 r1 => ?_⟩
  obtain ⟨tp, zs, rfl, q1, q2⟩ := rp_tup r1
  have := rpL_vs q2
  subst this
  exact ⟨tp, _, us, Bo, rfl, Evl.ex_t g1.vx.vh q1, hcl, hr, (h3.mono e1.vv).dct g1.vx.vh, kk _ H1 Hv1 g1 e1 rp_v'⟩
/-- {} -/
theorem xe_dct0 : XE X ρ (.Dict [] [] pos) (.dct [] []) :=
  PE.imp pe_dnewK fun σ H Q ⟨Bv, Bs, Hv, g, k⟩ => fun q hq => by
    refine k _ _ _ (g.newV hq) (Vx.newV g.vx.vh hq) ?_
    unfold Rp
    exact ⟨q, [], rfl, upd_same, rfl, rpL_nil⟩
/-- things that is_whole may be asked of -/
def plainD : D → Bool
  | .v .non => true
  | .v (.bl _) => true
  | .v (.int _) => true
  | .v (.str _) => true
  | .lst _ => true
  | .tup _ => true
  | .dct _ _ => true
  | _ => false
/-- range(i, j, c) upwards -/
theorem rs_pos {i j c : Int} (hc : 0 < c) : 0 ≤ Builtin.Range.rangeSize i j c ∧ (Builtin.Range.rangeSize i j c = 0 ∨ Builtin.Range.rangeSize i j c ≤ j - i) ∧ ∀ k : Int, 0 ≤ k → k < Builtin.Range.rangeSize i j c → i + k * c < j := by
  unfold Builtin.Range.rangeSize
  rw [if_pos hc]
  by_cases h : i < j
  · rw [if_pos h]
    have h1 : 0 ≤ (j - i - 1) / c := Int.ediv_nonneg (by omega) (by omega)
    have h2 : (j - i - 1) / c ≤ j - i - 1 := Int.ediv_le_self _ (by omega)
    have h3 : (j - i - 1) / c * c ≤ j - i - 1 := Int.ediv_mul_le _ (by omega)
    refine ⟨by omega, .inr (by omega), fun k h4 h5 => ?_⟩
    have h6 : k * c ≤ (j - i - 1) / c * c := Int.mul_le_mul_of_nonneg_right (by omega) (by omega)
    omega
  · rw [if_neg h]
    exact ⟨Int.le_refl _, .inl rfl, fun k h4 h5 => by omega⟩
theorem small_pos {i j c : Int} (hi : -(2 ^ 60) ≤ i ∧ i ≤ 2 ^ 60) (hj : -(2 ^ 60) ≤ j ∧ j ≤ 2 ^ 60) (hc : 0 < c ∧ c < 1000000) : Builtin.Range.small i j c = true := by
  obtain ⟨h1, h2, _⟩ := rs_pos (i := i) (j := j) hc.1
  unfold Builtin.Range.small
  generalize Builtin.Range.rangeSize i j c = r at h1 h2
  simp only [Builtin.Range.rangeFitsLong, Bool.and_eq_true, Bool.or_eq_true, decide_eq_true_eq, beq_iff_eq, show c > 0 from hc.1, if_true]
  omega
end
end PL
/-! objects: made, asked for their fields, their methods called -/
namespace PL
open PySem PySem.Spec L2
open Evl (Ex)
section
variable {K : PySem.W.Frag} {Bv Bs Hv H : Hp} {ρ : List E} {σ : L2.St}
end
/-- what a __init__ gives -/
inductive RoI where
  | flds (ns : List Str) (l : List D)
  | exc (C : Addr) (ns : List Str) (ds : List D)
  | bad
/-- the heap without p -/
def wo (H : Hp) (p : Addr) : Hp := fun a => if a = p then none else H a
def FinI (K : PySem.W.Frag) (C p : Addr) (Hv H : Hp) (Q : VK) (E : XK) : RoI → Prop
  | .flds ns l => ∀ H' Hv' dx xs, Vx Hv (wo H p) Hv' H' → Hv' p = none → H' p = some (.ins C dx (ns.zip xs)) → ns.length = xs.length → RpL K Hv' l xs → Q .non H'
  | .exc C' ns ds => ∀ od H' Hv', Vx Hv (wo H p) Hv' H' → ExAt K Hv' ns ds od → E (.ref C') od H'
  | .bad => False
def spI (K : PySem.W.Frag) (C : Addr) (n : Nat) (φ : List D → RoI) : Sp := fun vs H Q E => ∃ p us dx Hv ds, vs = .ref p :: us ∧ H p = some (.ins C dx []) ∧ Hv p = none ∧ Ex Hv (wo H p) ∧ RpL K Hv ds us ∧ ds.length = n ∧ FinI K C p Hv H Q E (φ ds)
inductive LeadsI (p C : Addr) : Out → RoI → Prop where
  | nx (ρ : List E) (ns : List Str) (l : List D) : ρ[0]? = some (.slf p C ns l) → LeadsI p C (.nx ρ) (.flds ns l)
  | exc (C' : Addr) (ns : List Str) (ds : List D) (ρ : List E) : LeadsI p C (.exc C' ns ds ρ) (.exc C' ns ds)
section
variable {P : Program} {w : World} {K : PySem.W.Frag} {mg : Str → Option Value} {base : Heap}
/-- a class of the text -/
structure ObC (K : PySem.W.Frag) (mg : Str → Option Value) (x : Str) (C : Addr) (ns : List Str) : Prop where
  mg_ : mg x = some (.ref C)
  cl : Cls K C
  na : ∀ f ∈ ns, NoAttr K C f
structure MkC (P : Program) (w : World) (K : PySem.W.Frag) (mg : Str → Option Value) (base : Heap) (C : Addr) (k n : Nat) (dvs : List V) (φ : List D → RoI) : Prop where
  ex : ∃ f fd ps us, Mk K C f ∧ FnOk P w K mg base (L2N.CX P w) k f fd ps (spI K C n φ) ∧ Binds K fd ps us ∧ Vals dvs us
structure MtC (P : Program) (w : World) (K : PySem.W.Frag) (mg : Str → Option Value) (base : Heap) (C : Addr) (m : Str) (k n : Nat) (φ : List D → Ro) : Prop where
  ex : ∃ f fd ps, Meth K C m f ∧ FnOk P w K mg base (L2N.CX P w) k f fd ps (spD K n φ) ∧ Binds K fd ps []
end
section
variable {X : Cx} {P : Program} {w : World} {K : PySem.W.Frag} {mg : Str → Option Value} {base : Heap} {k k' n : Nat} {N : List Str} {nk : List (Str × NameKind)} {W : WX}
variable {ρ ρ' ρ1 ρ2 : List E} {e a b c tg ob : Expr} {es : List Expr} {d f : D} {ds l m : List D} {pos p p' : Pos} {s : Str} {o o1 : Out} {kd : NameKind} {φ : List D → Ro} {body sts other more : List Stmt} {st : Stmt} {Bo : Bool} {C : Addr} {ns : List Str}
/-- .. of a class that has no __init__ of its own -/
structure Mk0 (K : PySem.W.Frag) (C : Addr) : Prop where
  makes : PySem.W.makesIn K C = true
  init : PySem.W.findIn K (.ref C) "__init__" = some (some (.builtin "object.__init__"))
  kp : PySem.W.keepIn K (.ref C) = true
  top : PySem.W.mroIn K C (.type "object") = some true
end
/-! ### a __init__ with defaults -/
section
variable {P : Program} {w : World} {K : PySem.W.Frag} {mg : Str → Option Value} {base : Heap}
end
end PL
/-! texts, each told by the list of its signs -/
namespace PL
open PySem PySem.Spec L2 PyProof.Rows
open Evl (Ex)
/-- the text of a list of signs -/
abbrev tx (l : List Nat) : Str := ⟨l.toArray⟩
abbrev D.tx (l : List Nat) : D := .str (PL.tx l)
theorem gl_tx {K : PySem.W.Frag} {h : Heap} {mg : Str → Option Value} {s z : Str} {l : List Nat} {t : Tok} (e : z = tx l) (X : K.In h) (G : h.Ns mainGlobals mg) (a : PySem.W.nsIn K mainGlobals s = some (some (.str z t))) : GlD K mg s (.tx l) := by
  subst e
  exact gl_str X G a
theorem ofTx (z : Str) : z = tx z.cps.toList := (SX.S_tl z).symm
/-- a whole number's signs -/
def intL (i : Int) : List Nat := if i < 0 then 45 :: TL.numL (-i).toNat else TL.numL i.toNat
theorem str_intL (i : Int) : ((toString i : String) : Str) = tx (intL i) := by
  unfold intL
  by_cases h : i < 0
  · rw [if_pos h]
    obtain ⟨n, rfl⟩ : ∃ n : Nat, i = Int.negSucc n := ⟨(-i - 1).toNat, by omega⟩
    refine TL.ext_tl ?_
    have e : (toString (Int.negSucc n) : String) = "-" ++ toString ((((n + 1 : Nat) : Nat) : Int)) := rfl
    show TL.tl (Str.ofString (toString (Int.negSucc n))) = _
    rw [e, show TL.tl (Str.ofString ("-" ++ toString (((n + 1 : Nat) : Nat) : Int))) = 45 :: TL.tl (Str.ofString (toString (((n + 1 : Nat) : Nat) : Int))) by
      rw [TL.tl_ofString, TL.tl_ofString, String.toList_append]
      rfl, TL.tl_num]
    show _ = 45 :: TL.numL (-(Int.negSucc n)).toNat
    rw [show (-(Int.negSucc n)).toNat = n + 1 by omega]
  · rw [if_neg h]
    obtain ⟨n, rfl⟩ : ∃ n : Nat, i = n := ⟨i.toNat, by omega⟩
    rw [Int.toNat_natCast]
    exact TL.ext_tl (TL.tl_num n)
theorem tx_len (l : List Nat) : (tx l).length = l.length := SX.S_len l
theorem tx_eq {a b : List Nat} : (tx a = tx b) ↔ a = b := ⟨SX.S_inj, fun h => by rw [h]⟩
/-- lists of texts -/
def txs (ys : List (List Nat)) : List D := ys.map D.tx
section
variable {X : Cx} {P : Program} {w : World} {K : PySem.W.Frag} {mg : Str → Option Value} {base : Heap} {k k' n : Nat} {N : List Str} {nk : List (Str × NameKind)} {W : WX}
variable {ρ ρ' ρ1 ρ2 : List E} {e a b c tg : Expr} {es : List Expr} {d f : D} {ds l m : List D} {pos p p' : Pos} {s : Str} {o o1 : Out} {kd : NameKind} {φ : List D → Ro} {body sts other more : List Stmt} {st : Stmt} {Bo : Bool} {t u : List Nat}
theorem x_lit {i j} (t : List Nat) (h : i = tx t := by decide +kernel) : XE X ρ (.Constant (.str i) j pos) (.tx t) := by
  rw [h]
  exact xe_str
theorem x_strI {i : Int} (B : Bx X P w K mg base k N nk) (q : Nat) (hm : mg "str" = none) (ha : XE X ρ e (.int i)) (hz : i.natAbs.log2 < 1920) (hj : nk[q]? = some (("str" : Str), NameKind.globalImplicit) := by rfl) (he : starEach (e :: []) X.env = (false, eval e X.env) :: starEach [] X.env := by rfl) (hpl : (backTo pos (starEach [] X.env)).any (·.1) = false := by rfl) : XE X ρ (.Call (.Name "str" p) [e] [] pos) (.tx (intL i)) := by
  have := x_str B q hm ha hz hj he hpl (p := p) (pos := pos)
  rw [str_intL] at this
  exact this
theorem x_cat (ha : XE X ρ a (.tx t)) (hb : XE X ρ b (.tx u)) (h : t.length + u.length ≤ 1000000) : XE X ρ (.BinOp a .Add b pos) (.tx (t ++ u)) := by
  have := x_bin (pos := pos) ha hb (.catS _ _ (by rw [tx_len, tx_len, sizeLine_eq]; omega))
  rw [show tx t ++ tx u = tx (t ++ u) from SX.S_cat t u] at this
  exact this
theorem x_lenT (B : Bx X P w K mg base k N nk) (j : Nat) (hm : mg "len" = none) (ha : XE X ρ e (.tx t)) (h : t.length ≤ 1000000) (hj : nk[j]? = some (("len" : Str), NameKind.globalImplicit) := by rfl) (he : starEach (e :: []) X.env = (false, eval e X.env) :: starEach [] X.env := by rfl) (hpl : (backTo pos (starEach [] X.env)).any (·.1) = false := by rfl) : XE X ρ (.Call (.Name "len" p) [e] [] pos) (.int t.length) := by
  have := xe_lenS (p := p) (pos := pos) (B.gl hj) (B.none hm) ha (by rw [tx_len, sizeLine_eq]; omega) he hpl
  rw [tx_len] at this
  exact this
theorem x_ixC {i : Int} {c : Nat} (ha : XE X ρ a (.tx t)) (hb : XE X ρ b (.int i)) (hi : atI t i = some c) (h : t.length ≤ 1000000) (hs : PlainIx b := by exact fun _ _ => rfl) : XE X ρ (.Subscript a b pos) (.tx [c]) :=
  xe_ixS ha hb (by rw [tx_len, sizeLine_eq]; omega) hi hs
theorem t_notInT {q : Nat} (ha : XE X ρ a (.tx [q])) (hb : XE X ρ b (.tx u)) (hm : behindInMarks .NotIn b = false := by rfl) : XT X ρ (.Compare a [.NotIn] [b] pos) (!decide (q ∈ u)) :=
  PT.imp (pt_cmpR op_notIn_sign ha hb hm) fun σ H Q ⟨Bv, Bs, Hv, g, k⟩ => ⟨Bv, Bs, Hv, g, fun v1 H1 Hv1 g1 e1 r1 => ⟨Bv, Bs, Hv1, g1, fun v2 H2 Hv2 g2 e2 r2 => by
    exact ⟨q, tx u, rp_v r1, rp_v r2, _, rfl, k H2 Hv2 g2 (e1.trans e2)⟩⟩⟩
/-- x in a list of data -/
structure InD (d : D) (l : List D) (b : Bool) : Prop where
  ex : ∃ p ps, toPy d = some p ∧ toPyL l = some ps ∧ SeqAt.shaped p = true ∧ SeqAt.shaped (.list ps) = true ∧ (ps.any fun z => PyData.eqv z p) = b
theorem t_inD (B : Bx X P w K mg base k N nk) (ha : XE X ρ a d) (hb : XE X ρ b (.lst l)) (h : InD d l Bo) (hm : behindInMarks .In b = false := by rfl) : XT X ρ (.Compare a [.In] [b] pos) Bo :=
  PT.imp (pt_cmpR (op_inD (by have := B.room.un; omega)) ha hb hm) fun σ H Q ⟨Bv, Bs, Hv, g, k⟩ => ⟨Bv, Bs, Hv, g, fun v1 H1 Hv1 g1 e1 r1 => ⟨Bv, Bs, Hv1, g1, fun v2 H2 Hv2 g2 e2 r2 => by
    obtain ⟨p, ps, h1, h2, h3, h4, h5⟩ := h.ex
    refine ⟨p, ps, dp_of h1 (rp_mono (e2.vv.trans g2.vx.vh) r1), dp_of (d := .lst l) (p := .list ps) (by show (toPyL l).map _ = _; rw [h2]; rfl) (rp_mono g2.vx.vh r2), h3, h4, _, rfl, ?_⟩
    rw [h5]
    exact k H2 Hv2 g2 (e1.trans e2)⟩⟩
/-- e.split(one sign) -/
theorem x_split {q : Nat} {ap : Pos} (ha : XE X ρ e (.tx t)) (hb : XE X ρ b (.tx [q])) (h : t.length ≤ 1000000) (hq : q < 256) (hs : starEach [b] X.env = [(false, eval b X.env)] := by rfl) (hbase : attributeBase e "split" X.env (eval e X.env) = eval e X.env := by rfl) (hline : (ap.endLine == pos.line) = true := by rfl) :
    XO X ρ (.Call (.Attribute e "split" ap) [b] [] pos) (txs (TL.spl [q] 0 [] t)) :=
  PE.imp (pe_split ha hb hs hbase hline) fun σ H Q ⟨Bv, Bs, Hv, g, k⟩ => ⟨Bv, Bs, Hv, g, fun v1 H1 Hv1 g1 e1 r1 => ⟨⟨tx t, rp_v r1⟩, Bv, Bs, Hv1, g1, fun v2 H2 Hv2 g2 e2 r2 => by
    refine ⟨tx t, tx [q], rp_v r1, by rw [rp_v r2], rfl, by rw [tx_len, sizeLine_eq]; omega, fun r hr => ?_⟩
    have x := e1.trans e2
    refine k r _ _ _ (g2.newH hr) (x.trans (Vx.newH g2.vx.vh hr)) (Evl.fresh_back g2.vx.hh hr) (Evl.fresh_back g2.vx.vh hr) upd_same ?_ (g2.notOwn_new hr) (Evl.fresh_back x.hh hr)
    rw [show Txt.split (tx t) (tx [q]) = (TL.spl [q] 0 [] t).map tx from SX.split_S (by simp) (by simp [hq])]
    unfold txs
    rw [show (D.tx) = D.v ∘ (V.str ∘ tx) from rfl, ← List.map_map, ← List.map_map]
    exact rpL_vs'⟩⟩
/-- a text.join(a list of texts) -/
theorem x_join {ys : List (List Nat)} {ap : Pos} (ha : XE X ρ e (.tx t)) (hb : XQ X ρ b l) (hy : l = txs ys) (h : (ys.map (·.length)).sum + ys.length * t.length ≤ 1000000) (hs : starEach [b] X.env = [(false, eval b X.env)] := by rfl) (hbase : attributeBase e "join" X.env (eval e X.env) = eval e X.env := by rfl) (hline : (ap.endLine == pos.line) = true := by rfl) :
    XE X ρ (.Call (.Attribute e "join" ap) [b] [] pos) (.tx (TL.joinL t ys)) := by
  subst hy
  exact PE.imp (pe_join ha hb hs hbase hline) fun σ H Q ⟨Bv, Bs, Hv, g, k⟩ => ⟨Bv, Bs, Hv, g, fun v1 H1 Hv1 g1 e1 r1 => ⟨⟨tx t, rp_v r1⟩, Bv, Bs, Hv1, g1, fun q xs H2 Hv2 g2 e2 h3 h4 => by
    have e3 : xs = (ys.map tx).map V.str := rpL_vs (vs := (ys.map tx).map V.str) (by
      rw [List.map_map, List.map_map]
      exact h4)
    subst e3
    refine ⟨tx t, q, ys.map tx, rp_v r1, rfl, .inl h3, ?_, ?_⟩
    · rw [SX.lens, List.length_map, tx_len]
      omega
    · rw [show Txt.join (tx t) (ys.map tx) = tx (TL.joinL t ys) from SX.join_S t ys]
      exact k _ H2 Hv2 g2 (e1.trans e2) rp_v'⟩⟩
/-- int(text) -/
theorem x_intT {i : Int} (B : Bx X P w K mg base k N nk) (q : Nat) (hm : mg "int" = none) (ha : XE X ρ e (.tx t)) (hi : intText? (tx t) = some i) (hz : t.length ≤ 640) (hj : nk[q]? = some (("int" : Str), NameKind.globalImplicit) := by rfl) (he : starEach (e :: []) X.env = (false, eval e X.env) :: starEach [] X.env := by rfl) (hpl : (backTo pos (starEach [] X.env)).any (·.1) = false := by rfl) : XE X ρ (.Call (.Name "int" p) [e] [] pos) (.int i) :=
  xe_callT (us := [.str (tx t)]) call_int_str (B.gl hj) (B.none hm) (by decide +kernel) (xa_cons ha xa_nil he) (fun _ _ q => ⟨tx t, i, rfl, hi, by rw [tx_len]; exact hz, q⟩) (he := he) (hpl := hpl)
/-- list(range(i, j)) -/
theorem x_listR2 {i j : Int} {p2 pos2 : Pos} (B : Bx X P w K mg base k N nk) (j1 j2 : Nat) (hm : mg "list" = none) (hm2 : mg "range" = none) (ha : XE X ρ a (.int i)) (hb : XE X ρ b (.int j)) (hr : RgOk i j) (h1 : nk[j1]? = some (("list" : Str), NameKind.globalImplicit) := by rfl) (h2 : nk[j2]? = some (("range" : Str), NameKind.globalImplicit) := by rfl)
    (na : starEach [a, b] X.env = (false, eval a X.env) :: starEach [b] X.env := by rfl) (nb : starEach [b] X.env = (false, eval b X.env) :: starEach [] X.env := by rfl) (hp : (backTo pos2 (starEach [b] X.env)).any (·.1) = false := by rfl)
    (nc : starEach [.Call (.Name "range" p2) [a, b] [] pos2] X.env = (false, eval (.Call (.Name "range" p2) [a, b] [] pos2) X.env) :: starEach [] X.env := by rfl) : XO X ρ (.Call (.Name "list" p) [.Call (.Name "range" p2) [a, b] [] pos2] [] pos) (rgD i (j - i).toNat) :=
  PE.imp (pe_listRg B.calm (B.gl h1) (B.none hm) (prg_2 (B.gl h2) (B.none hm2) ha hb na nb hp) nc) fun σ H Q ⟨Bv, Bs, Hv, g, k⟩ => ⟨Bv, Bs, Hv, g, fun v H1 Hv1 g1 e1 r1 => ⟨Bv, Bs, Hv1, g1, fun v2 H2 Hv2 g2 e2 r2 => by
    refine ⟨i, j, rp_v r1, rp_v r2, hr, fun r hr => ?_⟩
    have x := e1.trans e2
    refine k r _ _ _ (g2.newH hr) (x.trans (Vx.newH g2.vx.vh hr)) (Evl.fresh_back g2.vx.hh hr) (Evl.fresh_back g2.vx.vh hr) upd_same ?_ (g2.notOwn_new hr) (Evl.fresh_back x.hh hr)
    unfold rgV rgD
    rw [show (fun q : Nat => D.int (i + (q : Int))) = D.v ∘ (fun q : Nat => V.int (i + (q : Int))) from rfl, ← List.map_map]
    exact rpL_vs'⟩⟩
/-- range(i, j, c) as an argument -/
def tLR3 (ta : TA) : TE := fun σ H Q => ta σ H fun vs H1 => ∃ (i j c : Int) (n : Nat), vs = [.int i, .int j, .int c] ∧ RgC i j c n ∧ n ≤ 1000000 ∧ ∀ q, H1 q = none → Q (.ref q) (upd H1 q (.lst ((List.range n).map fun q : Nat => V.int (i + (q : Int) * c))))
theorem pe_listR3 {ta : TA} {p2 pos2 : Pos} (hc : X.calm = true) (hg : Gl X "list") (hm : X.mg "list" = none) (hg2 : Gl X "range") (hm2 : X.mg "range" = none) (ha : PA X [a, b, c] ta)
    (hs : starEach [a, b, c] X.env = (false, eval a X.env) :: starEach [b, c] X.env := by rfl) (hpl : (backTo pos2 (starEach [b, c] X.env)).any (·.1) = false := by rfl)
    (na : starEach [.Call (.Name "range" p2) [a, b, c] [] pos2] X.env = (false, eval (.Call (.Name "range" p2) [a, b, c] [] pos2) X.env) :: starEach [] X.env := by rfl) :
    PE X (.Call (.Name "list" p) [.Call (.Name "range" p2) [a, b, c] [] pos2] [] pos) (tLR3 ta) := by
  refine ⟨fun pins s σ H Q I h => ?_⟩
  refine Call_ (ld_blt I hg hm boot_list (PyProof.Rows.callWith_type1 (args_cons ?_ na) na))
  refine Call_ (ld_blt I hg2 hm2 boot_range (PyProof.Rows.callWith_type1 (thn (ha.run pos2 pins s σ H _ I h) fun us s1 ⟨vs, H1, I1, r1, q1⟩ => ?_) hs hpl))
  obtain ⟨i, j, k, n, e, ⟨c0, c1, c2, c3⟩, hn, q⟩ := q1
  subst e
  cases r1 with
  | cons r rr =>
    cases rr with
    | cons r' rr =>
      cases rr with
      | cons r'' rr =>
        cases rr
        obtain ⟨t, rfl⟩ := r
        obtain ⟨t', rfl⟩ := r'
        obtain ⟨t'', rfl⟩ := r''
        refine call_range_3 c0 ?_ (.inl (PyProof.noPylong_small c1))
        have I2 : Inv X pins σ H1 { s1 with heap := s1.heap.push { cls := .type "range", data := .fields #[.int i t, .int j t', .int k t''] } } := I1.kept (t' := s1.toks) fun b o e => Heap.get?_push_of_some _ e
        refine args_nil ?_
        refine call_list_range (n := n) (I2.ok.hd hc) (IsRange.new ..) c2 c3 (by omega) fun h' tk acc c' hk e' hi => ?_
        have hl : acc.toList.length = n := by rw [Array.length_toList]; exact hi.1
        refine ⟨.ref _, upd H1 _ (.lst ((List.range n).map fun q : Nat => V.int (i + (q : Int) * k))), I2.laid hk (Nat.le_refl _) (show ObjOk X.prog X.w _ _ _ (.lst _) from ⟨?_, acc.toList, c', ?_, ?_⟩), rfl, q _ (I2.hok.fresh (Nat.le_refl _))⟩
        · rw [List.length_map, List.length_range, sizeLine_eq]
          omega
        · rw [← hl]
          refine vals_of_get acc.toList _ fun j u hj => ?_
          have hj' : acc[j]? = some u := by rw [← Array.getElem?_toList]; exact hj
          obtain ⟨t, e⟩ := hi.2 j u hj'
          exact ⟨t, e⟩
        · rw [Array.toArray_toList]
          exact e'
theorem x_listR3 {i j m : Int} {p2 pos2 : Pos} (B : Bx X P w K mg base k N nk) (j1 j2 : Nat) (hm : mg "list" = none) (hm2 : mg "range" = none) (ha : XE X ρ a (.int i)) (hb : XE X ρ b (.int j)) (hc : XE X ρ c (.int m)) (hr : (-(2 ^ 60) ≤ i ∧ i ≤ 2 ^ 60) ∧ (-(2 ^ 60) ≤ j ∧ j ≤ 2 ^ 60) ∧ (0 < m ∧ m < 1000000) ∧ j - i ≤ 1000000) (h1 : nk[j1]? = some (("list" : Str), NameKind.globalImplicit) := by rfl) (h2 : nk[j2]? = some (("range" : Str), NameKind.globalImplicit) := by rfl)
    (hs : starEach [a, b, c] X.env = (false, eval a X.env) :: starEach [b, c] X.env := by rfl) (hs2 : starEach [b, c] X.env = (false, eval b X.env) :: starEach [c] X.env := by rfl) (hs3 : starEach [c] X.env = (false, eval c X.env) :: starEach [] X.env := by rfl) (hpl : (backTo pos2 (starEach [b, c] X.env)).any (·.1) = false := by rfl)
    (na : starEach [.Call (.Name "range" p2) [a, b, c] [] pos2] X.env = (false, eval (.Call (.Name "range" p2) [a, b, c] [] pos2) X.env) :: starEach [] X.env := by rfl) :
    XO X ρ (.Call (.Name "list" p) [.Call (.Name "range" p2) [a, b, c] [] pos2] [] pos) (rcD i m (Builtin.Range.rangeSize i j m).toNat) :=
  PE.imp (pe_listR3 B.calm (B.gl h1) (B.none hm) (B.gl h2) (B.none hm2) (xa_cons ha (xa_cons hb (xa_cons hc xa_nil hs3) hs2) hs) hs hpl na) fun σ H Q ⟨Bv, Bs, Hv, g, k⟩ => ⟨Bv, Bs, Hv, g, fun vs H1 Hv1 g1 e1 r1 => by
    have := rpL_vs (vs := [.int i, .int j, .int m]) r1
    subst this
    obtain ⟨q1, q2, q3⟩ := rs_pos (i := i) (j := j) hr.2.2.1.1
    refine ⟨i, j, m, (Builtin.Range.rangeSize i j m).toNat, rfl, ⟨by omega, by omega, small_pos hr.1 hr.2.1 hr.2.2.1, by omega⟩, by omega, fun r hr => ?_⟩
    refine k r _ _ _ (g1.newH hr) (e1.trans (Vx.newH g1.vx.vh hr)) (Evl.fresh_back g1.vx.hh hr) (Evl.fresh_back g1.vx.vh hr) upd_same ?_ (g1.notOwn_new hr) (Evl.fresh_back e1.hh hr)
    unfold rcD
    rw [show (fun q : Nat => D.int (i + (q : Int) * m)) = D.v ∘ (fun q : Nat => V.int (i + (q : Int) * m)) from rfl, ← List.map_map]
    exact rpL_vs'⟩
/-- a for that may end its def -/
theorem x_forX {it : Expr} (B : Bx X P w K mg base k N nk) (S : Bs X W) (hi : XI X ρ tg it ds) (h : FoD X W tg body ds ρ o) (ho : Stop o) (hs : ∀ x, foldedSetIterable it X.env x = pure x := by intro _; rfl) : XB X W ρ (.For tg it body [] pos :: more) o :=
  xb_stop (xs_for S.po B.calm hi h hs) ho
theorem fo_stop {α : Type} (q : α → Bool) {F : α → D} (ho : Stop o) (n1 : ∀ ρ, o ≠ .bk ρ) (n2 : ∀ ρ, o ≠ .ct ρ) : ∀ {as : List α}, (∀ x ∈ as, ∃ ρ1, XG X ρ tg (F x) ρ1 ∧ (q x = true → XB X W ρ1 body o) ∧ (q x = false → XB X W ρ1 body (.nx ρ))) → as.any q = true → FoD X W tg body (as.map F) ρ o
  | [], _, e => by cases e
  | x :: as, h, e => by
    obtain ⟨ρ1, h1, h2, h3⟩ := h x List.mem_cons_self
    cases hq : q x with
    | true => exact .out h1 (h2 hq) ho n1 n2
    | false =>
      refine .next h1 (h3 hq) (.inl rfl) (fo_stop q ho n1 n2 (fun y hy => h y (List.mem_cons_of_mem _ hy)) ?_)
      rw [List.any_cons, hq] at e
      exact e
theorem fo_allM {α : Type} {F : α → D} {as : List α} (h : ∀ x ∈ as, ∃ ρ1, XG X ρ tg (F x) ρ1 ∧ XB X W ρ1 body (.nx ρ)) : FoD X W tg body (as.map F) ρ (.nx ρ) := fo_all fun d hd => by
  obtain ⟨x, hx, rfl⟩ := List.mem_map.mp hd
  exact h x hx
/-- a loop over told things that folds -/
theorem fo_foldM {α β : Type} {F : α → D} (R : β → List E) (f : β → α → β) : ∀ {as : List α} {y : β} (p : β → List α → Prop), p y as → (∀ y x r, p y (x :: r) → p (f y x) r ∧ ∃ ρ1, XG X (R y) tg (F x) ρ1 ∧ XB X W ρ1 body (.nx (R (f y x)))) → FoD X W tg body (as.map F) (R y) (.nx (R (as.foldl f y)))
  | [], _, _, _, _ => .nil
  | x :: as, y, p, h0, h => by
    obtain ⟨h1, ρ1, h2, h3⟩ := h y x as h0
    exact .next h2 h3 (.inl rfl) (fo_foldM R f p h1 h)
theorem lc_mapM {α : Type} {scope : Scope} {vs : List Nat} {elt : Expr} {F G : α → D} {as : List α} (h : ∀ x ∈ as, ∃ ρ1, Blk X scope (fun Y => XGw Y vs ρ tg (F x) ρ1) ∧ Blk X scope (fun Y => XE Y ρ1 elt (G x))) : LcD X scope vs tg [] elt ρ (as.map F) (as.map G) := lc_of h
end
section
variable {X : Cx} {W : WX} {ρ : List E} {tg a b : Expr} {body : List Stmt} {pos : Pos} {t u : List Nat}
theorem x_neT (ha : XE X ρ a (.tx t)) (hb : XE X ρ b (.tx u)) : XE X ρ (.Compare a [.NotEq] [b] pos) (.bl (!decide (t = u))) := by
  have h := xe_cmp (pos := pos) ha hb (.neS _ _)
  rw [show decide (tx t = tx u) = decide (t = u) from decide_eq_decide.mpr tx_eq] at h
  exact h
theorem t_eqT (ha : XE X ρ a (.tx t)) (hb : XE X ρ b (.tx u)) : XT X ρ (.Compare a [.Eq] [b] pos) (decide (t = u)) := by
  have h := xt_cmpv (pos := pos) ha hb (.eqS _ _)
  rw [show decide (tx t = tx u) = decide (t = u) from decide_eq_decide.mpr tx_eq] at h
  exact h
theorem t_neT (ha : XE X ρ a (.tx t)) (hb : XE X ρ b (.tx u)) : XT X ρ (.Compare a [.NotEq] [b] pos) (!decide (t = u)) := by
  have h := xt_cmpv (pos := pos) ha hb (.neS _ _)
  rw [show decide (tx t = tx u) = decide (t = u) from decide_eq_decide.mpr tx_eq] at h
  exact h
end
theorem at_last {α : Type} {l : List α} {d : α} (h : l ≠ []) : atI l (-1) = some (l.getLastD d) := by
  obtain ⟨r, x, rfl⟩ : ∃ r x, l = r ++ [x] := ⟨l.dropLast, l.getLast h, (List.dropLast_concat_getLast h).symm⟩
  unfold atI ixN
  rw [if_neg (by omega), if_pos (by simp; omega), show ((-1 : Int) + ((r ++ [x]).length : Nat)).toNat = r.length by simp; omega]
  simp
theorem at_headF {α β : Type} {F : α → β} {l : List α} (d : α) (h : l ≠ []) : atI (l.map F) 0 = some (F (l.headD d)) := by
  cases l with
  | nil => exact absurd rfl h
  | cons x r => exact atI_nat (j := 0) rfl
theorem at_lastF {α β : Type} {F : α → β} {l : List α} (d : α) (h : l ≠ []) : atI (l.map F) (-1) = some (F (l.getLastD d)) := by
  obtain ⟨r, x, rfl⟩ : ∃ r x, l = r ++ [x] := ⟨l.dropLast, l.getLast h, (List.dropLast_concat_getLast h).symm⟩
  rw [at_last (d := F x) (by simp)]
  simp
/-- lists of lists of whole numbers -/
theorem toPyL_lists : ∀ (l : List (List Int)), toPyL (l.map fun e => .lst (e.map D.int)) = some (l.map fun e => .list (e.map PyData.int))
  | [] => rfl
  | e :: l => by
    rw [List.map_cons, List.map_cons]
    unfold toPyL
    rw [toPy_ints, toPyL_lists l]
theorem lay_lists : ∀ (l : List (List Int)), PyData.canLayAll0 (l.map fun e => .list (e.map PyData.int)) = true ∧ PyData.depthAll (l.map fun e => .list (e.map PyData.int)) ≤ 1
  | [] => ⟨rfl, by decide⟩
  | e :: l => by
    have h := lay_lists l
    have h2 := lay_ints e
    simp only [List.map_cons, PyData.canLayAll0, PyData.canLay0, PyData.depthAll, PyData.depth, h.1, h2.1, h2.2]
    exact ⟨by decide, by omega⟩
theorem shaped_lists (l : List (List Int)) : SeqAt.shaped (.list (l.map fun e => .list (e.map PyData.int))) = true := by
  have h := lay_lists l
  unfold SeqAt.shaped
  simp only [PyData.canLay0, PyData.depth, h.1]
  simp
  omega
theorem inD_lists (e : List Int) (l : List (List Int)) : InD (.lst (e.map D.int)) (l.map fun e => .lst (e.map D.int)) (l.any fun x => decide (x = e)) :=
  ⟨_, _, toPy_ints e, toPyL_lists l, shaped_ints e, shaped_lists l, by
    rw [List.any_map]
    congr 1
    funext x
    exact eqvAll_ints x e⟩
theorem txs_snoc (ts : List (List Nat)) (t : List Nat) : txs ts ++ [.tx t] = txs (ts ++ [t]) := by simp [txs]
theorem txs_len (ts : List (List Nat)) : (txs ts).length = ts.length := by simp [txs]
theorem joinL_len : ∀ {ts : List (List Nat)} (s : Nat), ts ≠ [] → (TL.joinL [s] ts).length + 1 = (ts.map (·.length)).sum + ts.length
  | [], _, h => absurd rfl h
  | [t], _, _ => by simp [TL.joinL]
  | t :: u :: r, s, _ => by
    have h := joinL_len (ts := u :: r) s (by simp)
    show (t ++ ([s] ++ TL.joinL [s] (u :: r))).length + 1 = _
    simp only [List.length_append, List.map_cons, List.sum_cons, List.length_cons, List.length_nil] at *
    omega
theorem joinL_app (S : List Nat) : ∀ {a b : List (List Nat)}, a ≠ [] → b ≠ [] → TL.joinL S (a ++ b) = TL.joinL S a ++ (S ++ TL.joinL S b)
  | [], _, h, _ => absurd rfl h
  | [t], u :: r, _, _ => rfl
  | t :: u :: r, b, _, hb => by
    show t ++ (S ++ TL.joinL S (u :: r ++ b)) = t ++ (S ++ TL.joinL S (u :: r)) ++ _
    rw [joinL_app S (a := u :: r) (by simp) hb]
    simp
theorem sum_le {c : Nat} : ∀ {ts : List (List Nat)}, (∀ t ∈ ts, t.length ≤ c) → (ts.map (·.length)).sum ≤ c * ts.length
  | [], _ => by simp
  | t :: r, h => by
    have h1 := h t List.mem_cons_self
    have h2 := sum_le fun x hx => h x (List.mem_cons_of_mem t hx)
    rw [List.map_cons, List.sum_cons, List.length_cons, Nat.mul_add]
    omega
theorem lgN {n : Nat} (h : n < 1000000) : (n : Int).natAbs.log2 < 1920 := by
  rw [Int.natAbs_natCast]
  have := Nat.log2_le_self n
  by_cases q : n = 0
  · subst q
    decide
  · have : n.log2 < 20 := (Nat.log2_lt q).mpr (by omega)
    omega
/-! contracts of texts -/
def fT (f : List Nat → Ro) : List D → Ro
  | [.v (.str z)] => f z.cps.toList
  | _ => .bad
theorem inv_T {f : List Nat → Ro} {ds : List D} (h : fT f ds ≠ .bad) : ∃ l, ds = [.tx l] ∧ f l ≠ .bad := by
  unfold fT at h
  split at h
  · rename_i z
    exact ⟨z.cps.toList, by rw [D.tx, ← ofTx], h⟩
  · exact absurd rfl h
def fTII (f : List Nat → Int → Int → Ro) : List D → Ro
  | [.v (.str z), .v (.int i), .v (.int j)] => f z.cps.toList i j
  | _ => .bad
theorem inv_TII {f : List Nat → Int → Int → Ro} {ds : List D} (h : fTII f ds ≠ .bad) : ∃ l i j, ds = [.tx l, .int i, .int j] ∧ f l i j ≠ .bad := by
  unfold fTII at h
  split at h
  · rename_i z i j
    exact ⟨z.cps.toList, i, j, by rw [D.tx, ← ofTx], h⟩
  · exact absurd rfl h
def fTB (f : List Nat → Nat → Nat → Ro) : List D → Ro := fTII fun l i j => if (0 ≤ i ∧ i ≤ j ∧ j ≤ 99) ∧ l.length ≤ 1000 then f l i.toNat j.toNat else .bad
theorem inv_TB {f : List Nat → Nat → Nat → Ro} {ds : List D} (h : fTB f ds ≠ .bad) : ∃ (l : List Nat) (i j : Nat), ds = [.tx l, .int (i : Nat), .int (j : Nat)] ∧ (i ≤ j ∧ j ≤ 99) ∧ l.length ≤ 1000 ∧ fTB f ds = f l i j ∧ f l i j ≠ .bad := by
  obtain ⟨l, i, j, rfl, h2⟩ := inv_TII h
  clear h
  split at h2
  · rename_i q
    refine ⟨l, i.toNat, j.toNat, by rw [Int.toNat_of_nonneg (by omega), Int.toNat_of_nonneg (by omega)], by omega, q.2, if_pos q, h2⟩
  · exact absurd rfl h2
theorem fTB_val {f : List Nat → Nat → Nat → Ro} {l : List Nat} {i j : Nat} (h : (i ≤ j ∧ j ≤ 99) ∧ l.length ≤ 1000) : fTB f [.tx l, .int (i : Nat), .int (j : Nat)] = f l i j := by
  show (if (0 ≤ (i : Int) ∧ (i : Int) ≤ j ∧ (j : Int) ≤ 99) ∧ l.length ≤ 1000 then f l (i : Int).toNat (j : Int).toNat else .bad) = _
  rw [if_pos (by omega)]
  rfl
end PL
/-! exceptions, on: a clause without a name, what a suite asks -/
namespace PL
open PySem PySem.Spec L2
open Evl (Ex)
section
variable {X : Cx} {P : Program} {w : World} {K : PySem.W.Frag} {mg : Str → Option Value} {base : Heap} {k k' n : Nat} {N : List Str} {nk : List (Str × NameKind)} {W : WX}
variable {ρ ρ' ρ1 ρ2 : List E} {e a b c tg : Expr} {es : List Expr} {d f : D} {ds l m : List D} {pos p p' : Pos} {s : Str} {o o1 : Out} {kd : NameKind} {φ : List D → Ro} {body sts other more : List Stmt} {st : Stmt} {Bo : Bool} {C F : Addr}
theorem Fin.suite {K : PySem.W.Frag} {W W' : WX} {Bv Bs : Hp} {D : Ends} (h : Fin K W Bv Bs D o) (q : noExc o) : Fin K W' Bv Bs D o := h.noX q
end
end PL
/-! exceptions that bear a context, suites that raise, classes with an __init__ of their own, calls and fields in a suite -/
namespace PL
open PySem PySem.Spec L2
open Evl (Ex)
theorem lookup_atV {nk : List (Str × V)} (hn : (nk.map (·.1)).Nodup) : ∀ {j : Nat} {s : Str} {kd : V}, nk[j]? = some (s, kd) → nk.lookup s = some kd := by
  induction nk with
  | nil => intro j s kd h; simp at h
  | cons a r ih =>
    intro j s kd h
    rw [List.map_cons, List.nodup_cons] at hn
    cases j with
    | zero =>
      simp at h
      subst h
      simp [List.lookup]
    | succ j =>
      simp at h
      have hm : s ∈ r.map (·.1) := List.mem_map.mpr ⟨_, List.mem_of_getElem? h, rfl⟩
      have hne : (s == a.1) = false := by
        rw [beq_eq_false_iff_ne]
        intro z
        exact hn.1 (z ▸ hm)
      rw [show a = (a.1, a.2) from rfl, List.lookup_cons, hne]
      exact ih hn.2 h
/-! ### contracts of defs that may raise within a suite -/
structure FnL (P : Program) (w : World) (K : PySem.W.Frag) (mg : Str → Option Value) (base : Heap) (x : Str) (k n : Nat) (φ : List D → Ro) : Prop where
  ex : ∃ f fd ps, mg x = some (.ref f) ∧ FnOk P w K mg base (L2.CX P w) k f fd ps (spD K n φ) ∧ PySem.W.keepIn K (.ref f) = true ∧ Binds K fd ps []
def noX (φ : List D → Ro) : List D → Ro := fun ds => match φ ds with
  | .exc _ _ _ => .bad
  | r => r
theorem finR_noX {K : PySem.W.Frag} {Hv H : Hp} {Q : VK} {E E' : XK} {φ : List D → Ro} {ds : List D} (h : FinR K Hv H Q E (noX φ ds)) : FinR K Hv H Q E' (φ ds) := by
  unfold noX at h
  generalize φ ds = r at h
  cases r with
  | exc => exact h.elim
  | _ => exact h
theorem FnL.n {P : Program} {w : World} {K : PySem.W.Frag} {mg : Str → Option Value} {base : Heap} {x : Str} {k n : Nat} {φ : List D → Ro} (F : FnL P w K mg base x k n φ) : FnC P w K mg base x k n (noX φ) := by
  obtain ⟨f, fd, ps, h1, h2, h3, h4⟩ := F.ex
  refine ⟨f, fd, ps, h1, ⟨fun vs H Q E ⟨Hv, ds, e, r, hl, q⟩ => h2.len vs H Q E0 ⟨Hv, ds, e, r, hl, finR_noX q⟩, fun A outer s H args us vs Q E hr he hb hv ⟨Hv, ds, e, r, hl, q⟩ => ?_⟩, h3, h4⟩
  refine codeAny_mono (h2.run A outer s H args us vs Q E0 hr he hb hv ⟨Hv, ds, e, r, hl, finR_noX q⟩) fun r s' hq => ?_
  cases r with
  | ok fl => cases fl <;> exact hq
  | error er =>
    obtain ⟨_, _, _, _, _, _, _, _, _, _, _, _, z⟩ := hq
    exact z.elim
/-- a body of such a def -/
structure Bl (X : Cx) (W : WX) : Prop where
  tk : L2.Takes X W
  pa : ∀ hd : Option Value, PassesOwnAt (model X.prog X.w) (X.A.mark hd) X.A X.env X.xe
section
variable {P : Program} {w : World} {K : PySem.W.Frag} {mg : Str → Option Value} {base : Heap}
end
section
variable {X : Cx} {P : Program} {w : World} {K : PySem.W.Frag} {mg : Str → Option Value} {base : Heap} {k k' n : Nat} {N : List Str} {nk : List (Str × NameKind)} {W : WX}
variable {ρ ρ' ρ1 ρ2 : List E} {e a b c tg : Expr} {es : List Expr} {d f : D} {ds l m : List D} {pos p p' : Pos} {s : Str} {o o1 : Out} {kd : NameKind} {φ : List D → Ro} {body sts other more : List Stmt} {st : Stmt} {Bo : Bool} {C F : Addr}
/-! ### try .. except F as y, of an exception that may bear a context -/
/-! ### suites that raise -/
structure Hr (Y : Cx) (P : Program) (w : World) (K : PySem.W.Frag) (mg : Str → Option Value) (base : Heap) (k : Nat) (N : List Str) (nk : List (Str × NameKind)) (W : WX) : Prop where
  hP : Y.prog = P
  hw : Y.w = w
  hK : Y.K = K
  hm : Y.mg = mg
  hb : Y.base = base
  hN : Y.N = N
  hs : ∀ (j : Nat) (s : Str) (kd : NameKind), nk[j]? = some (s, kd) → ∃ kd', Y.env.scope.names.lookup s = some kd' ∧ (kd' = kd ∨ (kd = .free ∧ kd' = .cell))
  room : L2H.RoomH k Y.A
  hot : L2H.HotC Y
  tk : L2.Takes Y W
theorem Hr.gl {Y : Cx} (B : Hr Y P w K mg base k N nk W) {j : Nat} (hj : nk[j]? = some (s, .globalImplicit)) : Gl Y s := by
  obtain ⟨kd', h1, rfl | ⟨z, _⟩⟩ := B.hs j s _ hj
  · exact h1
  · cases z
theorem Hr.vis {Y : Cx} (B : Hr Y P w K mg base k N nk W) {j : Nat} (hj : nk[j]? = some (s, kd)) (h : isVis kd = true) : Vis Y.env.scope s := by
  obtain ⟨kd', h1, rfl | ⟨rfl, rfl⟩⟩ := B.hs j s kd hj
  · cases kd' with
    | «local» => exact .inl h1
    | cell => exact .inr (.inl h1)
    | free => exact .inr (.inr h1)
    | _ => cases h
  · exact .inr (.inl h1)
/-- e.f of the caught one -/
theorem h_at {Y : Cx} {a : Addr} {od : Option Addr} {ns : List Str} {xs : List D} {y : Str} {py : Pos} {x nm : Str} (B : Hx Y X K mg N nk C a od) (T : ExCls K mg x C) (hno : PySem.W.findIn K (.ref C) nm = some none) (i j q : Nat) (hρ : ρ[i]? = some (.exc a od ns xs) := by rfl) (hq : xs[q]? = some d := by rfl) (hnm : ns[q]? = some nm := by rfl) (hnd : ns.Nodup := by decide +kernel)
    (hi : N[i]? = some y := by rfl) (hj : nk[j]? = some (y, kd) := by rfl) (hv : isVis kd = true := by rfl) (hd : (y == ("__debug__" : Str)) = false := by decide +kernel) (hcd : (y == ("__classdict__" : Str)) = false := by decide +kernel)
    (hbs : attributeBase (.Name y py) nm Y.env (eval (.Name y py) Y.env) = eval (.Name y py) Y.env := by rfl) :
    XE Y ρ (.Attribute (.Name y py) nm pos) d := by
  obtain ⟨oe, pn, rfl, hz, hf⟩ := B.hY
  have hK : X.K = K := B.hK
  subst hK
  refine PE.imp (pe_xf ⟨T.ga, T.gg, T.sub, T.hd⟩ hno hz hf (pe_var (i := i) (B.at_ hi) (B.vis hj hv) hd hcd) hbs) fun σ H Q ⟨Bv, Bs, Hv, g, kk⟩ => ?_
  obtain ⟨o', h1, h2, h3⟩ := g.at_ i _ hρ
  subst h2
  refine ⟨.ref a, h1, rfl, rfl, ?_⟩
  rcases h3 with ⟨z, z2, z3⟩ | ⟨dd, ys, e1, e2, e3, e4⟩
  · subst z
    cases hnm
  · obtain ⟨v, hv1, hv2⟩ := rpL_get e4 hq
    refine ⟨dd, ns.zip ys, v, e1, g.vx.vh _ _ e2, ?_, kk v H Hv g (Vx.refl g.vx.vh) hv2⟩
    have hz2 : (ns.zip ys)[q]? = some (nm, v) := by
      rw [List.getElem?_zip_eq_some]
      exact ⟨hnm, hv1⟩
    have hnd2 : ((ns.zip ys).map (·.1)).Nodup := by
      rw [List.map_fst_zip (by omega)]
      exact hnd
    exact lookup_atV hnd2 hz2
end
end PL
/-! classes of exceptions with an __init__ of their own: made, raised, in a suite too -/
namespace PL
open PySem PySem.Spec L2
open Evl (Ex)
/-- the class F, named s, has ValueError's own __init__ -/
structure VeC (K : PySem.W.Frag) (mg : Str → Option Value) (s : Str) (F : Addr) : Prop where
  mg_ : mg s = some (.ref F)
  rd : PySem.W.readsIn K F (.type "type") = true
  ga : PySem.W.specialIn K (.ref F) "__getattribute__" = some (some (.builtin "type.__getattribute__"))
  ini : PySem.W.findCls K (.ref F) (.type "type") "__init__" = some (.val (.builtin "ValueError.__init__"))
section
variable {X : Cx} {e : Expr} {es : List Expr} {ta : TA} {s : Str} {F : Addr} {p1 p2 pos : Pos}
theorem pe_veinitC {pl : Sem Bool} (VC : VeC X.K X.mg s F) (hg : Gl X s) (ha : PA X (e :: es) ta)
    (hc : eval (.Call (.Attribute (.Name s p1) "__init__" p2) (e :: es) [] pos) X.env = (do
      let ov ← eval (.Name s p1) X.env
      standAt p2.atName
      let (f, first) ← holding [ov] (getMethod ov "__init__" pl)
      callWith pos f first (backTo pos (starEach (e :: es) X.env)) (backToKw pos (keywordEach [] X.env))) := by rfl)
    (hdb : (s == ("__debug__" : Str)) = false := by decide +kernel) (he : starEach (e :: es) X.env = (false, eval e X.env) :: starEach es X.env := by rfl) (hpl : (backTo pos (starEach es X.env)).any (·.1) = false := by rfl) :
    PE X (.Call (.Attribute (.Name s p1) "__init__" p2) (e :: es) [] pos) (tVeI X.K ta) := by
  refine ⟨fun pins st σ H Q I w => PySem.W.methodCall_KW (ld_glob I hg VC.mg_ (PySem.W.method_cls I.kIn VC.ga (PySem.W.cls_value I.kIn VC.rd VC.ini (by decide +kernel) ?_)) hdb) hc⟩
  show wpAny (model X.prog X.w) X.A (callWith pos (Value.builtin "ValueError.__init__") [] (backTo pos (starEach (e :: es) X.env)) []) (EP X pins σ Q) X.xe _
  refine PyProof.Rows.callWith_method1 (thn (ha.run pos pins _ σ H _ (I.tok _) w) fun us t1 hh => ?_) he hpl
  obtain ⟨vs, H1, J, r1, a, C, ws, rfl, hl, O, hx, q⟩ := hh
  cases r1 with
  | @cons _ v0 _ vr r0 rr =>
    obtain rfl : v0 = Value.ref a := r0
    exact oinit_ok O J hx (by rw [← Paired.length rr, sizeLine_eq]; omega) fun t2 J2 => ⟨.non, H1, J2, rfl, q⟩
end
/-- the call F.__init__(self, text), as it is read -/
def IniCall (env : Env) (s t : Str) (j : Nat) (p1 p2 p3 p4 p5 : Pos) : Prop := ∃ pl : Sem Bool, eval (.Call (.Attribute (.Name s p1) "__init__" p2) [.Name "self" p3, .Constant (.str t) j p4] [] p5) env = (do
  let ov ← eval (.Name s p1) env
  standAt p2.atName
  let (f, first) ← holding [ov] (getMethod ov "__init__" pl)
  callWith p5 f first (backTo p5 (starEach [.Name "self" p3, .Constant (.str t) j p4] env)) (backToKw p5 (keywordEach [] env)))
/-- what such a class's __init__ does: one field -/
def spX (C : Addr) (f : Str) : Sp := fun vs H Q _ => ∃ a v, vs = [.ref a, v] ∧ H a = some (exo a C none) ∧ ∀ d, H d = none → d ≠ a → Q .non (upd (upd H d (exd d [(f, v)])) a (exo a C (some d)))
section
variable {X : Cx} {C F : Addr} {f prm s t : Str} {j : Nat} {p1 p2 p3 p4 p5 p6 p7 p8 p9 p10 : Pos}
theorem init_run (VC : VeC X.K X.mg s F) (O : OexC X.K C) (hno : PySem.W.findIn X.K (.ref C) f = some none) (hg : Gl X s) (n0 : X.N[0]? = some ("self" : Str)) (n1 : X.N[1]? = some prm) (v0 : Vis X.env.scope ("self" : Str)) (v1 : Vis X.env.scope prm) (hc : IniCall X.env s t j p1 p2 p3 p4 p5)
    (hp : (prm == ("__debug__" : Str)) = false) (hp2 : (prm == ("__classdict__" : Str)) = false) (hdb : (s == ("__debug__" : Str)) = false) :
    PSs X [.Expr (.Call (.Attribute (.Name s p1) "__init__" p2) [.Name "self" p3, .Constant (.str t) j p4] [] p5) p6, .Assign [.Attribute (.Name "self" p7) f p8] (.Name prm p9) p10]
      (fun D σ H => ∃ a v, σ = [some (V.ref a), some v] ∧ H a = some (exo a C none) ∧ ∀ d, H d = none → d ≠ a → D.nx σ (upd (upd H d (exd d [(f, v)])) a (exo a C (some d)))) := by
  obtain ⟨pl, hc⟩ := hc
  exact PSs.imp (pss_cons (ps_expr (pe_veinitC VC hg (pa_cons (pe_var (i := 0) n0 v0) (pa_cons pe_str pa_nil)) (hc := hc) (hdb := hdb))) (pss_cons (ps_ost (pe_var (i := 0) n0 v0) (pe_var (i := 1) n1 v1 hp hp2)) pss_nil)) fun D σ H ⟨a, v, e, ha, k⟩ => by
    subst e
    exact ⟨.ref a, rfl, a, C, [.str t], rfl, Nat.le_of_ble_eq_true rfl, O, ha, v, rfl, .ref a, rfl, a, C, rfl, O, hno, .inl ⟨ha, k⟩⟩
end
/-- the record at C is a class over ValueError with a dict -/
def oexIn (K : PySem.W.Frag) (C : Addr) : Bool := match K.lookup C with
  | some ob => match ob.cls, ob.data, ob.slots.toList with
    | .type "type", .cls c, [_, _, _, _, some (.builtin m), _] => (match c.mro with
      | .ref D :: bm => D == C && (m == "ValueError.__new__" && (c.hasDict && (!c.hasDel && PySem.HandSPX.refsVE bm)))
      | _ => false)
    | _, _, _ => false
  | none => false
theorem oex_mk {K : PySem.W.Frag} {mg : Str → Option Value} {s : Str} {C : Addr} (T : ExCls K mg s C) (h : oexIn K C = true) (sa : PySem.W.findIn K (.ref C) "__setattr__" = some (some (.builtin "object.__setattr__"))) : OexC K C := by
  refine ⟨?_, sa, T.sub, T.ty, T.kp⟩
  unfold oexIn at h
  cases e : K.lookup C with
  | none =>
    rw [e] at h
    cases h
  | some ob =>
    rw [e] at h
    obtain ⟨oc, od, dt, ⟨sl⟩⟩ := ob
    dsimp only at h
    split at h
    · split at h
      · rename_i cc _ _ _ _ mm _ _ D bm e2
        simp only [Bool.and_eq_true, beq_iff_eq, Bool.not_eq_true'] at h
        obtain ⟨h1, h2, h3, h4, h5⟩ := h
        obtain ⟨z1, z2, z3, z4, z5, z6, z7, z8, z9, za, zb⟩ := cc
        dsimp only at e2 h3 h4
        subst h1 h2 h3 h4 e2
        exact ⟨_, _, _, _, _, _, _, _, _, _, _, _, _, _, _, rfl, h5⟩
      · cases h
    · cases h
/-- a class of exceptions, named s, at C, that keeps one thing as its field f -/
structure ExI (P : Program) (w : World) (K : PySem.W.Frag) (mg : Str → Option Value) (base : Heap) (s : Str) (C : Addr) (f : Str) : Prop where
  cls : ExCls K mg s C
  oex : OexC K C
  no : PySem.W.findIn K (.ref C) f = some none
  ini : ∃ fI fd ps, PySem.W.findIn K (.ref C) "__init__" = some (some (.ref fI)) ∧ PySem.W.typeIn K (.ref fI) = some (.type "function") ∧ FnOk P w K mg base (L2N.CX P w) 1 fI fd ps (spX C f) ∧ L2H.FnH P w K mg base (L2N.CX P w) 1 fI fd ps (spX C f) ∧ Binds K fd ps []
theorem exI_mk {P : Program} {w : World} {K : PySem.W.Frag} {mg : Str → Option Value} {base : Heap} {s sF t prm f qual : Str} {C F fI : Addr} {st : Stmt} {fd : FuncData} {j : Nat} {p1 p2 p3 p4 p5 p6 p7 p8 p9 p10 : Pos}
    (T : ExCls K mg s C) (O : OexC K C) (VC : VeC K mg sF F) (hno : PySem.W.findIn K (.ref C) f = some none) (iC : PySem.W.findIn K (.ref C) "__init__" = some (some (.ref fI))) (tI : PySem.W.typeIn K (.ref fI) = some (.type "function"))
    (D : Fun K "__init__" qual st fI fd) (S : FnScope ["self", prm] ["self", prm] (defScope st)) (hb : defBody st = [.Expr (.Call (.Attribute (.Name sF p1) "__init__" p2) [.Name "self" p3, .Constant (.str t) j p4] [] p5) p6, .Assign [.Attribute (.Name "self" p7) f p8] (.Name prm p9) p10])
    (g0 : (defScope st).names.lookup sF = some .globalImplicit) (bi : Binds K fd ["self", prm] []) (hc : ∀ env, IniCall env sF t j p1 p2 p3 p4 p5) (hp : (prm == ("__debug__" : Str)) = false := by decide +kernel) (hp2 : (prm == ("__classdict__" : Str)) = false := by decide +kernel) (hdb : (sF == ("__debug__" : Str)) = false := by decide +kernel) : ExI P w K mg base s C f := by
  have v0 : Vis (defScope st) ("self" : Str) := by
    rcases S.par "self" (by simp) with z | z
    · exact .inl z
    · exact .inr (.inl z)
  have v1 : Vis (defScope st) prm := by
    rcases S.par prm (by simp) with z | z
    · exact .inl z
    · exact .inr (.inl z)
  have len : ∀ (vs : List V) (H : Hp) (Q : VK) (E : XK), spX C f vs H Q E → vs.length = (["self", prm] : List Str).length := fun vs H Q E ⟨a, v, e, _⟩ => by
    rw [e]
    rfl
  refine ⟨T, O, hno, fI, fd, _, iC, tI, okN D S len fun cdv A outer st' H vs Q E hr ⟨a, v, e, h1, h2⟩ => ?_, ?_, bi⟩
  · subst e
    rw [hb]
    exact ⟨_, init_run VC O hno g0 rfl rfl v0 v1 (hc _) hp hp2 hdb, a, v, rfl, h1, h2⟩
  · obtain ⟨oc, od, kV, doc, pm, an, cdv, ct, osl, rfl, lk, hcd⟩ := D.ex
    refine L2H.fn_ofH lk hcd S len fun A outer st' H vs Q E p hot hr ⟨a, v, e, h1, h2⟩ => ?_
    subst e
    rw [hb]
    exact ⟨_, init_run VC O hno g0 rfl rfl v0 v1 (hc _) hp hp2 hdb, a, v, rfl, h1, h2⟩
/-- C(e) where nothing is handled: an exception whose context is None -/
theorem pmk_oexN {X : Cx} {cxt : CXT} {x : Str} {e : Expr} {ta : TA} {C fI : Addr} {k : Nat} {fd : FuncData} {ps : List Str} {sp : Sp} {p pos : Pos} (O : OexC X.K C) (iC : PySem.W.findIn X.K (.ref C) "__init__" = some (some (.ref fI))) (tI : PySem.W.typeIn X.K (.ref fI) = some (.type "function"))
    (Fn : FnOk X.prog X.w X.K X.mg X.base cxt k fI fd ps sp) (room : Room (k + 1) X.A) (bi : Binds X.K fd ps []) (pass : Passes cxt X (fun _ _ _ => False)) (hg : Gl X x) (mgx : X.mg x = some (.ref C)) (ha : PA X [e] ta)
    (hdb : (x == ("__debug__" : Str)) = false := by decide) (he : starEach [e] X.env = [(false, eval e X.env)] := by rfl) : L2N.PMk X (.Call (.Name x p) [e] [] pos) (tMkO C sp [] ta) := by
  intro pins st0 σ H Q I h
  refine wpAny_Call_Name_kw (ld_glob I hg mgx (PySem.W.callWith_K (h₀ := X.base) I.ok.mod.kin O.kC (thn (ha.run pos pins st0 σ H _ I h) fun us st1 hh => ?_) he rfl) hdb)
  obtain ⟨vs, H1, J, rel, small, mk⟩ := hh
  refine ⟨J.kIn, ?_⟩
  obtain ⟨clsname, qn, nspace, bas, mro', sln, subc, abst, coll, ddd, z0, z1, z2, z3, z5, atC, bases⟩ := O.cls
  obtain ⟨h0, gens, drawn, toks, os⟩ := st1
  have hle : h0.objs.size ≤ h0.objs.size + 1 := Nat.le_succ _
  have call := mk (h0.objs.size + 1) (J.hok.fresh hle)
  have keep2 : ∀ b o, h0.get? b = some o → ((h0.push (PySem.W.kdv_tup us)).push (PySem.HandSPX.excO C h0.objs.size)).get? b = some o := fun b o z => Heap.get?_push_of_some _ (Heap.get?_push_of_some _ z)
  have J2 : Inv X pins σ (upd H1 (h0.objs.size + 1) (exo (h0.objs.size + 1) C none)) ⟨(h0.push (PySem.W.kdv_tup us)).push (PySem.HandSPX.excO C h0.objs.size), gens, drawn, toks, os⟩ := J.laid (t' := toks) keep2 hle (exo_ok (by heap_get))
  have rel2 : Vals (V.ref (h0.objs.size + 1) :: (vs ++ [])) (Value.ref (h0.objs.size + 1) :: (us ++ [])) := .cons rfl (rel.append .nil)
  have lenps : (Value.ref (h0.objs.size + 1) :: us ++ []).length = ps.length := (rel2.length.symm.trans (Fn.len _ _ _ _ call))
  have ulen : us.length ≤ sizeLine := by
    rw [← Paired.length rel, sizeLine_eq]
    omega
  show wpAny _ _ (PySem.call (.ref C) us) _ _ _
  have run := Fn.run (X.A.under (.builtin "type.__call__" ⟨.ref C :: us, []⟩)) X.stack _ _ ⟨Value.ref (h0.objs.size + 1) :: us, []⟩ _ _ _ (fun _ _ _ => False) (room.make C us []) (J2.env0.make C us []) (bi _ (Value.ref (h0.objs.size + 1) :: us) J2.kIn lenps) rel2 call
  refine wpAny_call (PySem.HandSPX.call_own PySem.F.excBase_ValueError (fun Y => PySem.HandSPX.refsVE_contains Y mro' bases) (J.kIn _ _ atC) (PySem.W.looks_findIn J.kIn iC) (fun self => PySem.W.bind_fn J.kIn self tI) ulen (codeAny_mono run fun r st2 out => ?_))
  match r, out with
  | .error er, out => exact pass pins σ _ _ er st2 J2 out
  | .ok .next, out => exact out.elim
  | .ok .brk, out => exact out.elim
  | .ok .cont, out => exact out.elim
  | .ok (.ret u), out =>
    obtain ⟨v, H2, os2, bare2, un2, hok2, rv, ev, d, fs, ea, ed, hd1, done⟩ := out
    subst ev
    obtain ⟨h2, gens2, drawn2, toks2, os'⟩ := st2
    obtain ⟨t0, G, JG, kG, ge, hoe, na⟩ := mk_end0 (d2 := drawn2) (t2 := toks2) J hle keep2 un2 hok2 os2 bare2 ea ed hd1
    exact ⟨rv, _, _, _, ⟨G, gens2, drawn2, toks2, os'⟩, _, .ref C, some d, rfl, JG, kG, ge, hoe, ⟨rfl, rfl, fun vs hv => by cases hv; rfl⟩, rfl, rfl, na, rfl, bare2, raises_own O.exC O.tyC, done⟩
theorem upd_xd {H1 : Hp} {a d : Addr} {C : Addr} {f : Str} {v : V} (ha : H1 a = none) (hd : d ≠ a) : upd (del (upd (upd (upd H1 a (exo a C none)) d (exd d [(f, v)])) a (exo a C (some d))) a) d (.xd [(f, v)]) = upd H1 d (.xd [(f, v)]) := by
  funext b
  by_cases h1 : b = d
  · rw [h1, upd_same, upd_same]
  · rw [upd_ne h1, upd_ne h1]
    by_cases h2 : b = a
    · rw [h2, del_same, ha]
    · rw [del_ne h2, upd_ne h2, upd_ne h1, upd_ne h2]
section
variable {X : Cx} {P : Program} {w : World} {K : PySem.W.Frag} {mg : Str → Option Value} {base : Heap} {k k' n : Nat} {N : List Str} {nk : List (Str × NameKind)} {W : WX}
variable {ρ ρ' ρ1 ρ2 : List E} {e a b c tg : Expr} {es : List Expr} {d f : D} {ds l m : List D} {pos p p' : Pos} {s : Str} {o o1 : Out} {kd : NameKind} {φ : List D → Ro} {body sts other more : List Stmt} {st : Stmt} {Bo : Bool} {C F : Addr}
theorem mkO_reads {fn : Str} {Q : XK} {σ : L2.St} {H1 Hv1 Bv Bs : Hp} {v : V} (g1 : Sg K Bv Bs Hv1 H1 ρ σ) (r1 : Rp K Hv1 d v) (kk : ∀ od H' Hv', Sg K Bv Bs Hv' H' ρ σ → ExAt K Hv' [fn] [d] od → Q (.ref C) od H') :
    [v].length ≤ 1000 ∧ ∀ a, H1 a = none → spX C fn (.ref a :: ([v] ++ [])) (upd H1 a (exo a C none)) (fun u H2 => u = .non ∧ ∃ (d : Addr) (fs : List (Str × V)), H2 a = some (exo a C (some d)) ∧ H2 d = some (exd d fs) ∧ H1 d = none ∧ Q (.ref C) (some d) (upd (del H2 a) d (.xd fs))) (fun _ _ _ => False) := by
  refine ⟨Nat.le_of_ble_eq_true rfl, fun a ha => ⟨a, v, rfl, upd_same, fun q hq hne => ⟨rfl, q, [(fn, v)], upd_same, by rw [upd_ne hne, upd_same], ?_, ?_⟩⟩⟩
  · rwa [upd_ne hne] at hq
  · rw [upd_ne hne] at hq
    rw [upd_xd ha hne]
    exact kk (some q) _ (upd Hv1 q (.xd [(fn, v)])) (g1.newV hq) (.inr ⟨q, [v], rfl, upd_same, rfl, rpL_cons (rp_mono (Ex.new (Evl.fresh_back g1.vx.vh hq)) r1) rpL_nil⟩)
/-- raise X(e), X with a field -/
theorem x_raiseI {fn : Str} {p3 : Pos} (B : Bx X P w K mg base k N nk) (S : Bs X W) (T : ExI P w K mg base s C fn) (j : Nat) (h : XE X ρ e d) (hk : 2 ≤ k := by decide) (hj : nk[j]? = some (s, .globalImplicit) := by rfl) (hd : (s == ("__debug__" : Str)) = false := by decide +kernel) (he : starEach [e] X.env = [(false, eval e X.env)] := by rfl) :
    XB X W ρ (.Raise (some (.Call (.Name s p) [e] [] p3)) none pos :: more) (.exc C [fn] [d] ρ) := by
  have h1 := B.hP; have h2 := B.hw; have h3 := B.hK; have h4 := B.hm; have h5 := B.hb
  subst h1 h2 h3 h4 h5
  obtain ⟨fI, fd, ps, iC, tI, F1, _, bi⟩ := T.ini
  refine xb_stop (PS.imp (L2N.ps_raise B.calm S.tk (pmk_oexN T.oex iC tI F1 (B.room.mono hk) bi passN (B.gl hj) T.cls.mg_ (xa_cons h xa_nil he) hd he)) fun D σ H ⟨Bv, Bs, Hv, g, kk⟩ => ?_) trivial
  refine ⟨Bv, Bs, Hv, g, fun vs H1 Hv1 g1 e1 r1 => ?_⟩
  obtain ⟨v, r, rfl, r2, r3⟩ := rpL_cons_inv r1
  have := rpL_nil_inv r3
  subst this
  exact mkO_reads (Q := fun c od H' => W c od σ H') g1 r2 fun od H' Hv' g' x => kk od σ H' Hv' g' x
end
end PL
/-! defs that are called where an exception is handled, whatever it is -/
namespace PL
open PySem PySem.Spec L2
open Evl (Ex)
/-- a def's promise there: the object at p.1 stands as p.2 -/
structure FnP (P : Program) (w : World) (K : PySem.W.Frag) (mg : Str → Option Value) (base : Heap) (k : Nat) (f : Addr) (fd : FuncData) (ps : List Str) (sp : Addr × Obj → List V → Hp → VK → Prop) : Prop where
  len : ∀ p vs H Q, sp p vs H Q → vs.length = ps.length
  run : ∀ (A : Around) (outer : List Env) (s : Shared) (H : Hp) (args : Args) (us : List Value) (vs : List V) (Q : VK) (p : Addr × Obj), L2H.RoomH k A → L2H.PinOk outer H s p → Env0 P w K mg base A outer s H → BindsTo s fd args (ps.zip us) → Vals vs us → sp p vs H Q →
    codeAny (model P w) A (.call (.ref f) args) (CR (L2N.CX P w) outer P w H s Q E0) s
/-- the context of its body -/
abbrev cxP (P : Program) (w : World) (K : PySem.W.Frag) (mg : Str → Option Value) (base : Heap) (N : List Str) (qual : Str) (scope : Scope) (f : Addr) (cd : Value) (A : Around) (outer : List Env) (s : Shared) (H : Hp) (p : Addr × Obj) : Cx := L2H.cxH (L2N.CX P w) P w K mg base N qual scope f cd A outer s H E0 p
open PyProof.Rows in
theorem fnP_mk {P : Program} {w : World} {K : PySem.W.Frag} {mg : Str → Option Value} {base : Heap} {x qual : Str} {st : Stmt} {f : Addr} {fd : FuncData} {N ps : List Str} {k : Nat} {sp : Addr × Obj → List V → Hp → VK → Prop} (F : Fun K x qual st f fd) (S : FnScope N ps (defScope st)) (len : ∀ p vs H Q, sp p vs H Q → vs.length = ps.length)
    (body : ∀ (cdv : Value) (A : Around) (outer : List Env) (s : Shared) (H : Hp) (vs : List V) (Q : VK) (p : Addr × Obj), L2H.RoomH k (A.deeper (envOfC qual (defScope st) s.heap.objs.size f cdv)) → sp p vs H Q →
      ∃ t, PSs (cxP P w K mg base N qual (defScope st) f cdv A outer s H p) (defBody st) t ∧ t { nx := fun _ H' => Q .non H', rt := Q } (start N vs) H) : FnP P w K mg base (k + 1) f fd ps sp := by
  obtain ⟨oc, od, kV, doc, pm, an, cdv, ct, osl, rfl, lk, hcd⟩ := F.ex
  refine ⟨len, fun A outer s H args us vs Q p room pin e0 bi rel q => ?_⟩
  have k0 : K.In s.heap := e0.mod.kin.keeps fun b o z => (e0.bs b o z).1
  have nl : s.heap.NoLimit := e0.mod.nolimit.keeps fun b o z => (e0.bs b o z).1
  have kinds : ∀ y ∈ ps.zip us, (defScope st).names.lookup y.1 = some .local ∨ ((defScope st).names.lookup y.1 = some .cell ∧ ((cellsFrom (s.heap.objs.size + 1) (defScope st).names []).lookup y.1).isSome = true) := by
    intro y hy
    obtain ⟨nm, u⟩ := y
    rcases S.par nm (List.of_mem_zip hy).1 with z | z
    · exact .inl z
    · exact .inr ⟨z, PySem.W.cellsFrom_some _ _ _ (.inl z)⟩
  obtain ⟨t, ht, hq⟩ := body cdv A outer s H vs Q p (room.deeper _) q
  refine codeAny_call_function room.depth (k0 _ _ lk) rfl S.co S.gen rfl (PySem.W.codeRec_of k0 hcd) (bi _ _ _ _ (wpAny_newFunctionEnv_cells S.kind kinds fun env ev st1 inc => ?_))
  subst ev
  refine ⟨nl.keeps inc.toInCall.keep, codeAny_func ?_⟩
  have J := L2H.inv_startH (CX := L2N.CX P w) (E := E0) S pin e0 (len _ _ _ _ q) rel inc
  refine wpAny_mono (ht.run [] st1 (start N vs) H _ J hq) (fun fl st2 out => ?_) fun er st2 out => out
  match fl, out with
  | .ret u, ⟨v, σ', H', J2, rv, z⟩ => exact ⟨v, H', J2.os, J2.bare, J2.base, J2.hok, rv, z⟩
  | .next, ⟨σ', H', J2, z⟩ => exact ⟨V.non, H', J2.os, J2.bare, J2.base, J2.hok, rfl, z⟩
  | .brk, ⟨_, _, _, z⟩ => exact z.elim
  | .cont, ⟨_, _, _, z⟩ => exact z.elim
theorem pe_callP {Y : Cx} {k : Nat} {f : Addr} {fd : FuncData} {ps : List Str} {sp : Addr × Obj → List V → Hp → VK → Prop} {x : Str} {e : Expr} {es : List Expr} {t : TA} {q pos : Pos} {p : Addr × Obj} (F : FnP Y.prog Y.w Y.K Y.mg Y.base k f fd ps sp) (room : L2H.RoomH k Y.A) (hp : p ∈ Y.pn) (hg : Gl Y x) (mgx : Y.mg x = some (.ref f)) (kp : PySem.W.keepIn Y.K (.ref f) = true) (bi : Binds Y.K fd ps [])
    (ha : PA Y (e :: es) t) (hdb : (x == ("__debug__" : Str)) = false := by decide) (he : starEach (e :: es) Y.env = (false, eval e Y.env) :: starEach es Y.env := by rfl) (hpl : (backTo pos (starEach es Y.env)).any (·.1) = false := by rfl) :
    PE Y (.Call (.Name x q) (e :: es) [] pos) (fun σ H Q => t σ H fun vs H1 => sp p vs H1 Q) := by
  refine ⟨fun pins s σ H Q I h => wpAny_Call_Name_kw (ld_glob I hg mgx (PySem.W.callWith_K (h₀ := Y.base) I.ok.mod.kin kp (thn (ha.run pos pins s σ H _ I h) fun us s1 hh => ?_) he hpl) hdb)⟩
  obtain ⟨vs, H1, J, rel, z⟩ := hh
  refine ⟨J.kIn, ?_⟩
  have P1 := J.pin p (List.mem_append_left _ hp)
  have pin : L2H.PinOk Y.stack H1 s1 p := ⟨P1.1, P1.2.1, fun hm => (List.mem_cons.mp (J.stkSub p.1 hm)).elim P1.2.2.1 P1.2.2.2.1, P1.2.2.2.2⟩
  have b := bi s1 us J.kIn (by rw [List.append_nil, ← rel.length]; exact F.len _ _ _ _ z)
  rw [List.append_nil] at b
  refine wpAny_call (codeAny_mono (F.run Y.A Y.stack s1 H1 ⟨us, []⟩ us vs Q p room pin J.env0 b rel z) fun r s2 out => ?_)
  match r, out with
  | .ok (.ret u), out => exact J.after out
  | .ok .next, out => exact out.elim
  | .ok .brk, out => exact out.elim
  | .ok .cont, out => exact out.elim
  | .error er, ⟨_, _, _, _, _, _, _, _, _, _, _, _, z⟩ => exact z.elim
/-- a contract in terms of data -/
structure FnQ (P : Program) (w : World) (K : PySem.W.Frag) (mg : Str → Option Value) (base : Heap) (x : Str) (k n : Nat) (φ : List D → Ro) : Prop where
  ex : ∃ f fd ps, mg x = some (.ref f) ∧ FnP P w K mg base k f fd ps (fun _ vs H Q => spD K n φ vs H Q E0) ∧ PySem.W.keepIn K (.ref f) = true ∧ Binds K fd ps []
/-- what stands around such a body, or a suite -/
structure Hq (Y : Cx) (P : Program) (w : World) (K : PySem.W.Frag) (mg : Str → Option Value) (base : Heap) (k : Nat) (N : List Str) (nk : List (Str × NameKind)) : Prop where
  hP : Y.prog = P
  hw : Y.w = w
  hK : Y.K = K
  hm : Y.mg = mg
  hb : Y.base = base
  hN : Y.N = N
  hs : ∀ (j : Nat) (s : Str) (kd : NameKind), nk[j]? = some (s, kd) → ∃ kd', Y.env.scope.names.lookup s = some kd' ∧ (kd' = kd ∨ (kd = .free ∧ kd' = .cell))
  room : L2H.RoomH k Y.A
  pin : ∃ p, p ∈ Y.pn
section
variable {X Y : Cx} {P : Program} {w : World} {K : PySem.W.Frag} {mg : Str → Option Value} {base : Heap} {k k' n : Nat} {N : List Str} {nk : List (Str × NameKind)} {W : WX}
variable {ρ ρ' ρ1 ρ2 : List E} {e a b c tg : Expr} {es : List Expr} {d f : D} {ds l m : List D} {pos p p' : Pos} {s : Str} {o o1 : Out} {kd : NameKind} {φ : List D → Ro} {body sts other more : List Stmt} {st : Stmt} {Bo : Bool} {C F : Addr}
theorem Hx.q {aa : Addr} {od : Option Addr} (H : Hx Y X K mg N nk C aa od) (B : Bx X P w K mg base k N nk) : Hq Y P w K mg base k N nk := by
  obtain ⟨oe, pn, rfl, hz, hf⟩ := H.hY
  exact ⟨B.hP, B.hw, H.hK, H.hm, B.hb, H.hN, H.hs, L2H.roomH_mark B.room _, _, List.mem_cons_self⟩
theorem Hr.q (H : Hr Y P w K mg base k N nk W) : Hq Y P w K mg base k N nk := by
  obtain ⟨p, _, hp⟩ := H.hot
  exact ⟨H.hP, H.hw, H.hK, H.hm, H.hb, H.hN, H.hs, H.room, p, hp⟩
theorem Hq.gl (B : Hq Y P w K mg base k N nk) {j : Nat} (hj : nk[j]? = some (s, .globalImplicit)) : Gl Y s := by
  obtain ⟨kd', h1, rfl | ⟨z, _⟩⟩ := B.hs j s _ hj
  · exact h1
  · cases z
theorem Hq.vis (B : Hq Y P w K mg base k N nk) {j : Nat} (hj : nk[j]? = some (s, kd)) (h : isVis kd = true) : Vis Y.env.scope s := by
  obtain ⟨kd', h1, rfl | ⟨rfl, rfl⟩⟩ := B.hs j s kd hj
  · cases kd' with
    | «local» => exact .inl h1
    | cell => exact .inr (.inl h1)
    | free => exact .inr (.inr h1)
    | _ => cases h
  · exact .inr (.inl h1)
theorem Hq.none (B : Hq Y P w K mg base k N nk) (h : mg s = none) : Y.mg s = none := by
  rw [B.hm]
  exact h
theorem q_var (B : Hq Y P w K mg base k N nk) (i j : Nat) (hr : ρ[i]? = some (.val d) := by rfl) (hi : N[i]? = some s := by rfl) (hj : nk[j]? = some (s, kd) := by rfl) (hv : isVis kd = true := by rfl) (hd : (s == ("__debug__" : Str)) = false := by decide +kernel) (hcd : (s == ("__classdict__" : Str)) = false := by decide +kernel) : XE Y ρ (.Name s pos) d :=
  xe_name i (by rw [B.hN]; exact hi) (B.vis hj hv) hr hd hcd
theorem q_bcl {id : String} (B : Hq Y P w K mg base k N nk) (j : Nat) (hm : mg s = none) (hv : bootBuiltins s = some (.type id)) (hj : nk[j]? = some (s, .globalImplicit) := by rfl) (hn : s ≠ "__name__" := by decide +kernel) (hd : (s == ("__debug__" : Str)) = false := by decide +kernel) : XE Y ρ (.Name s pos) (.v (.ty id)) :=
  xe_of (pe_bltn (B.gl hj) (B.none hm) hv (show RelV (.ty id) (.type id) from rfl) hn hd) fun _ _ _ q => q
/-- isinstance of data -/
theorem q_isi {u t : Value} {c : V} {g : Str} {r : Bool} {q : D} {p2 : Pos} (B : Hq Y P w K mg base k N nk) (j : Nat) (hm : mg "isinstance" = none) (ha : XE Y ρ e q) (hc : XE Y ρ (.Name g p2) (.v c)) (hcl : ClsV c u) (hk : Kd K q t) (hr : PySem.W.kitOne K t u = some r)
    (hj : nk[j]? = some (("isinstance" : Str), NameKind.globalImplicit) := by rfl)
    (he : starEach [e, .Name g p2] Y.env = (false, eval e Y.env) :: starEach [.Name g p2] Y.env := by rfl) (he2 : starEach [.Name g p2] Y.env = (false, eval (.Name g p2) Y.env) :: starEach [] Y.env := by rfl) (hpl : (backTo pos (starEach [.Name g p2] Y.env)).any (·.1) = false := by rfl) :
    XE Y ρ (.Call (.Name "isinstance" p) [e, .Name g p2] [] pos) (.bl r) :=
  PE.imp (pe_callB call_isi (B.gl hj) (B.none hm) PyProof.Rows.boot_isinstance (xa_cons ha (xa_cons hc xa_nil he2) he) (he := he) (hpl := hpl)) fun σ H Q ⟨Bv, Bs, Hv, g, kk⟩ => ⟨Bv, Bs, Hv, g, fun vs H1 Hv1 g1 e1 r1 => by
    obtain ⟨x, r2, rfl, h1, h2⟩ := rpL_cons_inv r1
    obtain ⟨y, r3, rfl, h3, h4⟩ := rpL_cons_inv h2
    rw [rpL_nil_inv h4, rp_v h3]
    refine ⟨x, c, t, u, r, rfl, hcl, ?_, ?_, kk _ H1 Hv1 g1 e1 rp_v'⟩
    · have := hk.ty (H := H1) (rp_mono g1.vx.vh (by rw [B.hK] at h1; exact h1))
      rw [B.hK]
      exact this
    · rw [B.hK]
      exact hr⟩
/-- a call there -/
theorem q_call (B : Hq Y P w K mg base k N nk) (Fc : FnQ P w K mg base s k' n φ) (j : Nat) (ha : XA Y ρ (e :: es) ds) (hφ : φ ds = .val d) (hn : ds.length = n := by rfl) (hj : nk[j]? = some (s, .globalImplicit) := by rfl) (hk : k' ≤ k := by decide) (hdb : (s == ("__debug__" : Str)) = false := by decide +kernel)
    (he : starEach (e :: es) Y.env = (false, eval e Y.env) :: starEach es Y.env := by rfl) (hpl : (backTo pos (starEach es Y.env)).any (·.1) = false := by rfl) : XE Y ρ (.Call (.Name s p) (e :: es) [] pos) d := by
  obtain ⟨f, fd, ps, hm, Fo, hkp, hb⟩ := Fc.ex
  have h1 := B.hP; have h2 := B.hw; have h3 := B.hK; have h4 := B.hm; have h5 := B.hb
  subst h1 h2 h3 h4 h5
  obtain ⟨pp, hpp⟩ := B.pin
  refine PE.imp (pe_callP Fo (B.room.mono hk) hpp (B.gl hj) hm hkp hb ha hdb he hpl) fun σ H Q ⟨Bv, Bs, Hv, g, kk⟩ => ⟨Bv, Bs, Hv, g, fun vs H1 Hv1 g1 e1 r1 => ?_⟩
  refine ⟨Hv1, ds, g1.vx.vh, r1, hn, ?_⟩
  rw [hφ]
  exact fun v H' Hv' x r => kk v H' Hv' (g1.go x) (e1.trans x) r
/-- a def of one return's expression -/
theorem def_okQ {x : Str} {st : Stmt} {ps : List Str} {N : List Str} {nk : List (Str × NameKind)} {k n : Nat} {φ : List D → Ro} {e : Expr} {pos : Pos} (T : DefAt K mg x st ps) (S : FnScope N ps (defScope st)) (hnk : (defScope st).names = nk) (hnd : (nk.map (·.1)).Nodup) (hn : ps.length = n) (hbd : defBody st = [.Return (some e) pos])
    (body : ∀ (Y : Cx) (ds : List D), Hq Y P w K mg base k N nk → ds.length = n → φ ds ≠ .bad → ∃ d, XE Y (startE N ds) e d ∧ φ ds = .val d) : FnQ P w K mg base x (k + 1) n φ := by
  obtain ⟨f, fd, F, hm, hb⟩ := T
  refine ⟨f, fd, ps, hm, fnP_mk F S (fun _ vs H Q ⟨Hv, ds, _, r, hl, _⟩ => by rw [rpL_len r, hl, hn]) (fun cdv A outer s H vs Q p hr ⟨Hv, ds, ex, r, hl, q⟩ => ?_), F.kp, hb⟩
  have nb : φ ds ≠ .bad := fun z => by
    rw [z] at q
    exact q
  obtain ⟨d, h1, h2⟩ := body (cxP P w K mg base N x (defScope st) f cdv A outer s H p) ds ⟨rfl, rfl, rfl, rfl, rfl, rfl, fun j s kd hj => ⟨kd, by
    show (defScope st).names.lookup s = some kd
    rw [hnk]
    exact lookup_at hnd hj, .inl rfl⟩, hr, p, List.mem_cons_self⟩ hl nb
  rw [hbd]
  refine ⟨_, pss_one (ps_ret h1), Hv, H, Hv, sg_start ex r, fun v H' Hv' g' e1 r1 => ?_⟩
  rw [h2] at q
  exact q v H' Hv' g'.vx r1
/-- is_whole, asked where an exception is handled -/
def phi_wholeQ : List D → Ro
  | [.v (.int _)] => .val (.bl true)
  | _ => .bad
theorem whole_okQ {x prm : Str} {st : Stmt} {p1 p2 p3 p4 p5 p6 p7 p8 p9 p10 p11 : Pos} (T : DefAt K mg x st [prm]) (S : FnScope [prm] [prm] (defScope st)) (hnk : (defScope st).names = [(prm, .local), ("isinstance", .globalImplicit), ("int", .globalImplicit), ("bool", .globalImplicit)]) (hnd : (([(prm, .local), ("isinstance", .globalImplicit), ("int", .globalImplicit), ("bool", .globalImplicit)] : List (Str × NameKind)).map (·.1)).Nodup)
    (hbd : defBody st = [.Return (some (.BoolOp .And [.Call (.Name "isinstance" p1) [.Name prm p2, .Name "int" p3] [] p4, .UnaryOp .Not (.Call (.Name "isinstance" p5) [.Name prm p6, .Name "bool" p7] [] p8) p9] p10)) p11]) (m1 : mg "isinstance" = none) (m2 : mg "int" = none) (m3 : mg "bool" = none)
    (hd : (prm == ("__debug__" : Str)) = false := by decide +kernel) (hcd : (prm == ("__classdict__" : Str)) = false := by decide +kernel) : FnQ P w K mg base x 1 1 phi_wholeQ := by
  refine def_okQ T S hnk hnd rfl hbd fun Y ds H hl nb => ?_
  obtain ⟨i, rfl⟩ : ∃ i : Int, ds = [.int i] := by
    unfold phi_wholeQ at nb
    split at nb
    · exact ⟨_, rfl⟩
    · exact absurd rfl nb
  exact ⟨.bl true, xe_andV (q_isi H 1 m1 (q_var H 0 0 (hd := hd) (hcd := hcd)) (q_bcl H 2 m2 boot_int) (.ty _) (.int _) kit_is) fun _ => xe_one (xe_notV (q_isi H 1 m1 (q_var H 0 0 (hd := hd) (hcd := hcd)) (q_bcl H 3 m3 boot_bool) (.ty _) (.int _) kit_is)), rfl⟩
end
end PL
/-! a text, so many times -/
namespace PL
open PySem PySem.Spec L2
theorem rep_fold (l : List Nat) : ∀ (n : Nat) (acc : List Nat), ((List.replicate n l.toArray).foldl (· ++ ·) acc.toArray : Array Nat) = (acc ++ (List.replicate n l).flatten).toArray
  | 0, acc => by simp
  | n + 1, acc => by
    rw [List.replicate_succ, List.foldl_cons, List.replicate_succ, List.flatten_cons, show (acc.toArray ++ l.toArray : Array Nat) = (acc ++ l).toArray by simp, rep_fold l n (acc ++ l), List.append_assoc]
theorem rep_len (l : List Nat) : ∀ n : Nat, (List.replicate n l).flatten.length = n * l.length
  | 0 => by simp
  | n + 1 => by
    rw [List.replicate_succ, List.flatten_cons, List.length_append, rep_len l n, Nat.succ_mul, Nat.add_comm]
section
variable {X : Cx} {ρ : List E} {a b : Expr} {pos : Pos}
theorem op_mulS : OpR X (binaryOp .Mult) (fun x y H Q => ∃ (l : List Nat) (n : Nat), x = .str (tx l) ∧ y = .int (n : Int) ∧ 2 ≤ n ∧ n ≤ 10000 ∧ l ≠ [] ∧ l.length * n ≤ 100000 ∧ Q (.str (tx (List.replicate n l).flatten)) H) := by
  intro pins s σ H x y v u Q I rx ry h
  obtain ⟨l, n, rfl, rfl, h2, h3, h4, h5, q⟩ := h
  obtain ⟨t, rfl⟩ := (show ∃ t, v = Value.str (tx l) t from rx)
  obtain ⟨t', rfl⟩ := (show ∃ t, u = Value.int (n : Int) t from ry)
  have hp : 0 < l.length := List.length_pos_iff.mpr h4
  have hx : (tx l).length = l.length := tx_len l
  have e1 : ¬ ((n : Int) < 1) := by omega
  have e2 : ((n : Int) == 1 || (tx l).length == 0) = false := by
    rw [hx, Bool.or_eq_false_iff, beq_eq_false_iff_ne, beq_eq_false_iff_ne]
    omega
  have hn : (n : Int).toNat = n := rfl
  have z1 : ¬ (n : Int) < -(2 ^ 63 : Int) := Int.not_lt.mpr (Int.le_trans (by decide : -(2 ^ 63 : Int) ≤ 0) (Int.natCast_nonneg n))
  have z2 : ¬ (n : Int) ≥ 2 ^ 63 := Int.not_le.mpr (Int.lt_of_le_of_lt (show (n : Int) ≤ 10000 by omega) (by decide))
  refine PySem.P.mul_str (by
      rw [decide_eq_false z1, decide_eq_false z2]
      rfl) (fun _ _ hgt => ?_) (fun _ _ => ?_) ?_
  · rw [hx] at hgt
    have k5 : (l.length : Int) * (n : Int) ≤ 100000 := by
      rw [← Int.natCast_mul]
      exact Int.ofNat_le.mpr h5
    have k6 : (l.length : Int) ≤ (2 ^ 63 - 1) / (n : Int) := (Int.le_ediv_iff_mul_le (by omega)).mpr (Int.le_trans k5 (by decide))
    exact absurd hgt (Int.not_lt.mpr k6)
  · rw [hx, hn]
    unfold Builtin.Str.tooLong
    simp only [decide_eq_false_iff_not, sizeLine_eq]
    omega
  · rw [if_neg e1, e2, if_neg (by decide)]
    have e3 : (⟨(List.replicate (n : Int).toNat (tx l).cps).foldl (· ++ ·) #[]⟩ : Str) = tx (List.replicate n l).flatten := by
      show (⟨_⟩ : Str) = ⟨_⟩
      rw [hn, show (#[] : Array Nat) = ([] : List Nat).toArray from rfl, rep_fold l n []]
      rfl
    rw [e3]
    refine ⟨?_, .str (tx (List.replicate n l).flatten), H, I.tok _, ⟨_, rfl⟩, q⟩
    rw [tx_len, rep_len, sizeLine_eq]
    rw [Nat.mul_comm] at h5
    omega
/-- 'text' * n -/
theorem x_repS {l : List Nat} {n : Nat} (ha : XE X ρ a (.tx l)) (hb : XE X ρ b (.int (n : Int))) (h : (2 ≤ n ∧ n ≤ 10000) ∧ l ≠ [] ∧ l.length * n ≤ 100000) : XE X ρ (.BinOp a .Mult b pos) (.tx (List.replicate n l).flatten) :=
  xe_op op_mulS ha hb fun _ _ q => ⟨l, n, rfl, rfl, h.1.1, h.1.2, h.2.1, h.2.2, q⟩
end
end PL
/-! what the laws draw: cells, digits -/
namespace Dig
open PySem PySem.Spec L2 PL
def cell (ns : List Int) (k : Int) : Int := ns.getD k.toNat ((k + 2) ^ Int.toNat 5 * 1299709 % 15485863)
def stir1 (n : Int) : Int := (n % 10 ^ Int.toNat 18 + 1) * 452930459 % 4294967291
def stir2 (n : Int) : Int := stir1 n * (stir1 n % 65521 + 15485863) % 999999937
def stir (n : Int) : Int := stir2 n * (stir2 n % 32749 + 3) % 2147483629
def small (c : Int) : Bool := decide ((if c < 0 then -c else c) < 10 ^ Int.toNat 18)
def digs : Bool → Int → List Int → List Int
  | _, _, [] => []
  | true, c, s :: r => stir c / 8 % s :: digs true (stir c) r
  | false, c, s :: r => c % s :: digs false (c / s) r
inductive Bnd : List Int → List Int → Prop where
  | nil : Bnd [] []
  | cons {d s : Int} {ds ss : List Int} : 0 ≤ d → d < s → Bnd ds ss → Bnd (d :: ds) (s :: ss)
theorem digs_ok : ∀ (m : Bool) (c : Int) (ss : List Int), (∀ s ∈ ss, 0 < s ∧ s < 1073741824) → Bnd (digs m c ss) ss
  | m, c, [], _ => by cases m <;> exact .nil
  | true, c, s :: r, h => by
    have h1 := h s List.mem_cons_self
    exact .cons (Int.emod_nonneg _ (by omega)) (Int.emod_lt_of_pos _ h1.1) (digs_ok true _ r fun x hx => h x (List.mem_cons_of_mem _ hx))
  | false, c, s :: r, h => by
    have h1 := h s List.mem_cons_self
    exact .cons (Int.emod_nonneg _ (by omega)) (Int.emod_lt_of_pos _ h1.1) (digs_ok false _ r fun x hx => h x (List.mem_cons_of_mem _ hx))
theorem Bnd.inv {l : List Int} {s : Int} {ss : List Int} (h : Bnd l (s :: ss)) : ∃ d r, l = d :: r ∧ (0 ≤ d ∧ d < s) ∧ Bnd r ss := by
  cases h with
  | cons a b c => exact ⟨_, _, rfl, ⟨a, b⟩, c⟩
theorem Bnd.nil' {l : List Int} (h : Bnd l []) : l = [] := by
  cases h
  rfl
theorem Bnd.len : ∀ {l ss : List Int}, Bnd l ss → l.length = ss.length
  | _, _, .nil => rfl
  | _, _, .cons _ _ h => by simp [h.len]
theorem b1 {l : List Int} {s1 : Int} (h : Bnd l [s1]) : ∃ a, l = [a] ∧ 0 ≤ a ∧ a < s1 := by
  obtain ⟨a, r, rfl, h1, h⟩ := h.inv
  rw [h.nil']
  exact ⟨_, rfl, h1⟩
theorem b2 {l : List Int} {s1 s2 : Int} (h : Bnd l [s1, s2]) : ∃ a b, l = [a, b] ∧ (0 ≤ a ∧ a < s1) ∧ 0 ≤ b ∧ b < s2 := by
  obtain ⟨a, r, rfl, h1, h⟩ := h.inv
  obtain ⟨b, rfl, h2⟩ := b1 h
  exact ⟨_, _, rfl, h1, h2⟩
theorem b3 {l : List Int} {s1 s2 s3 : Int} (h : Bnd l [s1, s2, s3]) : ∃ a b c, l = [a, b, c] ∧ (0 ≤ a ∧ a < s1) ∧ (0 ≤ b ∧ b < s2) ∧ 0 ≤ c ∧ c < s3 := by
  obtain ⟨a, r, rfl, h1, h⟩ := h.inv
  obtain ⟨b, c, rfl, h2⟩ := b2 h
  exact ⟨_, _, _, rfl, h1, h2⟩
theorem b4 {l : List Int} {s1 s2 s3 s4 : Int} (h : Bnd l [s1, s2, s3, s4]) : ∃ a b c d, l = [a, b, c, d] ∧ (0 ≤ a ∧ a < s1) ∧ (0 ≤ b ∧ b < s2) ∧ (0 ≤ c ∧ c < s3) ∧ 0 ≤ d ∧ d < s4 := by
  obtain ⟨a, r, rfl, h1, h⟩ := h.inv
  obtain ⟨b, c, d, rfl, h2⟩ := b3 h
  exact ⟨_, _, _, _, rfl, h1, h2⟩
theorem b5 {l : List Int} {s1 s2 s3 s4 s5 : Int} (h : Bnd l [s1, s2, s3, s4, s5]) : ∃ a b c d e, l = [a, b, c, d, e] ∧ (0 ≤ a ∧ a < s1) ∧ (0 ≤ b ∧ b < s2) ∧ (0 ≤ c ∧ c < s3) ∧ (0 ≤ d ∧ d < s4) ∧ 0 ≤ e ∧ e < s5 := by
  obtain ⟨a, r, rfl, h1, h⟩ := h.inv
  obtain ⟨b, c, d, e, rfl, h2⟩ := b4 h
  exact ⟨_, _, _, _, _, rfl, h1, h2⟩
theorem b6 {l : List Int} {s1 s2 s3 s4 s5 s6 : Int} (h : Bnd l [s1, s2, s3, s4, s5, s6]) : ∃ a b c d e f, l = [a, b, c, d, e, f] ∧ (0 ≤ a ∧ a < s1) ∧ (0 ≤ b ∧ b < s2) ∧ (0 ≤ c ∧ c < s3) ∧ (0 ≤ d ∧ d < s4) ∧ (0 ≤ e ∧ e < s5) ∧ 0 ≤ f ∧ f < s6 := by
  obtain ⟨a, r, rfl, h1, h⟩ := h.inv
  obtain ⟨b, c, d, e, f, rfl, h2⟩ := b5 h
  exact ⟨_, _, _, _, _, _, rfl, h1, h2⟩
theorem b7 {l : List Int} {s1 s2 s3 s4 s5 s6 s7 : Int} (h : Bnd l [s1, s2, s3, s4, s5, s6, s7]) : ∃ a b c d e f g, l = [a, b, c, d, e, f, g] ∧ (0 ≤ a ∧ a < s1) ∧ (0 ≤ b ∧ b < s2) ∧ (0 ≤ c ∧ c < s3) ∧ (0 ≤ d ∧ d < s4) ∧ (0 ≤ e ∧ e < s5) ∧ (0 ≤ f ∧ f < s6) ∧ 0 ≤ g ∧ g < s7 := by
  obtain ⟨a, r, rfl, h1, h⟩ := h.inv
  obtain ⟨b, c, d, e, f, g, rfl, h2⟩ := b6 h
  exact ⟨_, _, _, _, _, _, _, rfl, h1, h2⟩
/-- the digits as the law draws them -/
def digV (m : Bool) (c : Int) (ss : List Int) : List Int := digs (m || small c) c ss
theorem digV_ok (m : Bool) (c : Int) (ss : List Int) (h : ∀ s ∈ ss, 0 < s ∧ s < 1073741824) : Bnd (digV m c ss) ss := digs_ok _ _ _ h
def toInt1 : D → Int
  | .v (.int i) => i
  | _ => 0
theorem toInts_map (ns : List Int) : (ns.map D.int).map toInt1 = ns := by
  rw [List.map_map]
  exact List.map_id'' (fun _ => rfl) ns
/-- one turn -/
def digF (m : Bool) (y : Int × List D) (d : D) : Int × List D := if m then (stir y.1, y.2 ++ [.int (stir y.1 / 8 % toInt1 d)]) else (y.1 / toInt1 d, y.2 ++ [.int (y.1 % toInt1 d)])
theorem digF_fold : ∀ (m : Bool) (ss : List Int) (c : Int) (l : List D), ((ss.map D.int).foldl (digF m) (c, l)).2 = l ++ (digs m c ss).map D.int
  | m, [], c, l => by cases m <;> simp [digs]
  | true, s :: r, c, l => by
    rw [List.map_cons, List.foldl_cons, show digF true (c, l) (D.int s) = (stir c, l ++ [.int (stir c / 8 % s)]) from rfl, digF_fold]
    simp [digs]
  | false, s :: r, c, l => by
    rw [List.map_cons, List.foldl_cons, show digF false (c, l) (D.int s) = (c / s, l ++ [.int (c % s)]) from rfl, digF_fold]
    simp [digs]
open Classical in
/-- the contract of the law's digits -/
noncomputable def phi_law_digits : List D → Ro
  | [.v (.int c), .lst l, .v (.bl m)] => if l = (l.map toInt1).map D.int ∧ (∀ s ∈ l.map toInt1, 0 < s ∧ s < 1073741824) ∧ l.length ≤ 1000 then .fr ((digV m c (l.map toInt1)).map D.int) else .bad
  | _ => .bad
theorem dig_val {c : Int} {ss : List Int} {m : Bool} (h : ∀ s ∈ ss, 0 < s ∧ s < 1073741824) (hl : ss.length ≤ 1000) : phi_law_digits [.int c, .lst (ss.map D.int), .bl m] = .fr ((digV m c ss).map D.int) := by
  unfold phi_law_digits
  simp only [toInts_map, List.length_map]
  rw [if_pos ⟨trivial, h, hl⟩]
theorem dig_is {c : Int} {ss l : List Int} {m : Bool} (e : digV m c ss = l) (h : ∀ s ∈ ss, 0 < s ∧ s < 1073741824 := by decide) (hl : ss.length ≤ 1000 := by decide) : phi_law_digits [.int c, .lst (ss.map D.int), .bl m] = .fr (l.map D.int) := by
  rw [dig_val h hl, e]
theorem dig_inv {ds : List D} (h : phi_law_digits ds ≠ .bad) : ∃ (c : Int) (ss : List Int) (m : Bool), ds = [.int c, .lst (ss.map D.int), .bl m] ∧ (∀ s ∈ ss, 0 < s ∧ s < 1073741824) ∧ ss.length ≤ 1000 := by
  unfold phi_law_digits at h
  split at h
  · rename_i c l m
    split at h
    · rename_i q
      obtain ⟨h1, h2, h3⟩ := q
      exact ⟨c, l.map toInt1, m, by rw [← h1], h2, by rw [List.length_map]; exact h3⟩
    · exact absurd rfl h
  · exact absurd rfl h
def phi_law_stir : List D → Ro := fI fun c => .val (.int (stir c))
def phi_law_cell_at : List D → Ro := fLI fun l k => if 0 ≤ k ∧ k ≤ 1000000 then .val (l.getD k.toNat (.int ((k + 2) ^ Int.toNat 5 * 1299709 % 15485863))) else .bad
theorem cell_val {ns : List Int} {k : Int} (h : 0 ≤ k ∧ k ≤ 1000000) : phi_law_cell_at [.lst (ns.map D.int), .int k] = .val (.int (cell ns k)) := by
  show (if 0 ≤ k ∧ k ≤ 1000000 then Ro.val ((ns.map D.int).getD k.toNat (.int ((k + 2) ^ Int.toNat 5 * 1299709 % 15485863))) else .bad) = _
  rw [if_pos h, getD_map']
  rfl
end Dig
/-! masks: whole numbers as sets of bits -/
namespace Bits
open PySem PySem.Spec L2 PL
theorem shl_nat (n : Nat) : (1 : Int) * 2 ^ ((n : Int).toNat) = ((2 ^ n : Nat) : Int) := by
  rw [Int.toNat_natCast]
  push_cast
  omega
theorem or_nat (m n : Nat) : Builtin.bitOr (m : Int) (n : Int) = ((m ||| n : Nat) : Int) := by
  rw [bitOr_pp (Int.natCast_nonneg _) (Int.natCast_nonneg _), Int.toNat_natCast, Int.toNat_natCast]
/-- the mask of numbers -/
def maskOf (l : List Nat) : Nat := l.foldl (fun m n => m ||| 2 ^ n) 0
theorem maskOf_from : ∀ (l : List Nat) (m i : Nat), (l.foldl (fun m n => m ||| 2 ^ n) m).testBit i = (m.testBit i || decide (i ∈ l))
  | [], m, i => by simp
  | n :: l, m, i => by
    rw [List.foldl_cons, maskOf_from l, Nat.testBit_or, Nat.testBit_two_pow]
    by_cases h : n = i
    · subst h
      simp
    · have h' : ¬ i = n := fun e => h e.symm
      simp [h, h']
theorem maskOf_bit (l : List Nat) (i : Nat) : (maskOf l).testBit i = decide (i ∈ l) := by
  unfold maskOf
  rw [maskOf_from]
  simp
/-- a list of numbers as data -/
def nl (l : List Nat) : List D := (l.map fun n : Nat => (n : Int)).map D.int
theorem nl_len (l : List Nat) : (nl l).length = l.length := by simp [nl]
theorem cast_inj {a b : List Nat} (h : a.map (fun n : Nat => (n : Int)) = b.map fun n : Nat => (n : Int)) : a = b := List.map_inj_right (fun x y => Int.ofNat_inj.mp) |>.mp h
theorem eqD_nl (a b : List Nat) : EqD (.lst (nl a)) (.lst (nl b)) (decide (a = b)) := by
  have h := eqD_ints (a.map fun n : Nat => (n : Int)) (b.map fun n : Nat => (n : Int))
  have e : decide (a.map (fun n : Nat => (n : Int)) = b.map fun n : Nat => (n : Int)) = decide (a = b) := by
    rw [decide_eq_decide]
    exact ⟨cast_inj, fun e => by rw [e]⟩
  rw [e] at h
  exact h
def toNats (l : List D) : List Nat := l.map fun d => (Dig.toInt1 d).toNat
theorem toNats_nl (l : List Nat) : toNats (nl l) = l := by
  unfold toNats nl
  rw [List.map_map, List.map_map]
  exact List.map_id'' (fun n => by simp [Dig.toInt1]) l
section
variable {X : Cx} {ρ : List E} {tg : Expr} {scope : Scope} {vs : List Nat} {elt c : Expr}
theorem lc_fil {α : Type} {F G : α → D} (q : α → Bool) : ∀ {as : List α}, (∀ x ∈ as, ∃ ρ1, Blk X scope (fun Y => XGw Y vs ρ tg (F x) ρ1) ∧ Blk X scope (fun Y => XT Y ρ1 c (q x)) ∧ (q x = true → Blk X scope (fun Y => XE Y ρ1 elt (G x)))) → LcD X scope vs tg [c] elt ρ (as.map F) ((as.filter q).map G)
  | [], _ => .nil
  | d :: ds, h => by
    obtain ⟨ρ1, h1, h2, h3⟩ := h d List.mem_cons_self
    have ih := lc_fil q fun x hx => h x (List.mem_cons_of_mem _ hx)
    cases hq : q d with
    | true =>
      rw [List.filter_cons_of_pos hq, List.map_cons, List.map_cons]
      rw [hq] at h2
      exact .keep h1 (fun s H C cl fp => xts_one (h2 s H C cl fp)) (h3 hq) ih
    | false =>
      rw [List.filter_cons_of_neg (by rw [hq]; decide), List.map_cons]
      rw [hq] at h2
      exact .skip h1 (fun s H C cl fp => xts_one (h2 s H C cl fp)) ih
end
section
open Classical
/-- numbers from 0 to 63 in a list -/
noncomputable def fN (f : List Nat → Ro) : List D → Ro
  | [.lst l] => if l = nl (toNats l) ∧ (∀ n ∈ toNats l, n < 64) ∧ l.length ≤ 1000 then f (toNats l) else .bad
  | _ => .bad
theorem fN_val {f : List Nat → Ro} {l : List Nat} (h : ∀ n ∈ l, n < 64) (hl : l.length ≤ 1000) : fN f [.lst (nl l)] = f l := by
  show (if nl l = nl (toNats (nl l)) ∧ (∀ n ∈ toNats (nl l), n < 64) ∧ (nl l).length ≤ 1000 then f (toNats (nl l)) else .bad) = _
  rw [toNats_nl, if_pos ⟨rfl, h, by rw [nl_len]; exact hl⟩]
theorem inv_N {f : List Nat → Ro} {ds : List D} (h : fN f ds ≠ .bad) : ∃ l : List Nat, ds = [.lst (nl l)] ∧ (∀ n ∈ l, n < 64) ∧ l.length ≤ 1000 ∧ fN f ds = f l := by
  unfold fN at h
  split at h
  · rename_i l
    split at h
    · rename_i q
      obtain ⟨q1, q2, q3⟩ := q
      have e : (toNats l).length ≤ 1000 := by simpa [toNats] using q3
      exact ⟨toNats l, by rw [← q1], q2, e, by rw [q1, fN_val q2 e, toNats_nl]⟩
    · exact absurd rfl h
  · exact absurd rfl h
end
end Bits
/-! fields' texts: what number_in, span_in, item_mask and read_field tell -/
namespace Fld
open PySem PL Bits TL L2
abbrev figs : List Nat := [48, 49, 50, 51, 52, 53, 54, 55, 56, 57]
theorem fig_iff {c : Nat} : c ∈ figs ↔ 48 ≤ c ∧ c ≤ 57 := by
  simp only [figs, List.mem_cons, List.not_mem_nil, or_false]
  omega
def onlyF (l : List Nat) : Bool := (l.all fun c => decide (c ∈ figs)) && !decide (l = [])
theorem onlyF_iff {l : List Nat} : onlyF l = true ↔ NumText.AllDigits l ∧ l ≠ [] := by
  unfold onlyF
  rw [Bool.and_eq_true, List.all_eq_true, Bool.not_eq_true', decide_eq_false_iff_not]
  constructor
  · exact fun h => ⟨fun c hc => fig_iff.mp (by simpa using h.1 c hc), h.2⟩
  · exact fun h => ⟨fun c hc => by simpa using fig_iff.mpr (h.1 c hc), h.2⟩
theorem onlyF_num (n : Nat) : onlyF (numL n) = true := onlyF_iff.mpr ⟨numL_digits n, numL_ne n⟩
theorem onlyF_int {l : List Nat} (h : onlyF l = true) (hl : l.length ≤ 640) : intText? (tx l) = some ((NumText.digitsVal l : Nat) : Int) :=
  intText_digits (x := tx l) (onlyF_iff.mp h).1 (onlyF_iff.mp h).2 (by rw [tx_len]; omega)
theorem onlyF_at {l : List Nat} (h : (!onlyF l) = false) : atI l 0 = some (l.headD 0) := by
  have h' : onlyF l = true := by simpa using h
  cases l with
  | nil => cases h'
  | cons c r => exact atI_nat (j := 0) rfl
theorem onlyF_not {l : List Nat} {c : Nat} (h : c ∈ l) (hc : c < 48 ∨ 57 < c) : onlyF l = false := by
  by_cases q : onlyF l = true
  · have := (onlyF_iff.mp q).1 c h
    omega
  · simpa using q
/-- a text that is no number of one or two figures -/
def badNum (l : List Nat) : Bool := !onlyF l || (decide (((l.length : Nat) : Int) > 2) || (decide ([l.headD 0] = ([48] : List Nat)) && !decide (l = [48])))
def numN (l : List Nat) (lo hi : Nat) : List Nat := if badNum l = true then [] else if lo ≤ NumText.digitsVal l ∧ NumText.digitsVal l ≤ hi then [NumText.digitsVal l] else []
theorem bad_num : ∀ n, n < 100 → badNum (numL n) = false := by decide +kernel
theorem numN_num {n lo hi : Nat} (h : n < 100) (h1 : lo ≤ n) (h2 : n ≤ hi) : numN (numL n) lo hi = [n] := by
  unfold numN
  rw [bad_num n h, if_neg (by decide), numL_val, if_pos ⟨h1, h2⟩]
theorem numN_mem {l : List Nat} {lo hi n : Nat} (h : n ∈ numN l lo hi) : lo ≤ n ∧ n ≤ hi := by
  unfold numN at h
  split at h
  · simp at h
  · split at h
    · simp only [List.mem_singleton] at h
      subst h
      assumption
    · simp at h
theorem numN_one {l : List Nat} {lo hi : Nat} (h : numN l lo hi ≠ []) : numN l lo hi = [(numN l lo hi).headD 0] := by
  unfold numN at *
  repeat' split
  all_goals simp_all
theorem spl_ne (S : List Nat) : ∀ (l : List Nat) (k : Nat) (acc : List Nat), spl S k acc l ≠ []
  | [], k, acc => by rw [spl_nil]; simp
  | c :: r, 0, acc => by
    show (if pre S (c :: r) = true then acc :: spl S (S.length - 1) [] r else spl S 0 (acc ++ [c]) r) ≠ []
    split
    · simp
    · exact spl_ne S r 0 _
  | c :: r, k + 1, acc => spl_ne S r k acc
theorem spl_len (S : List Nat) : ∀ (l : List Nat) (k : Nat) (acc : List Nat), (spl S k acc l).length ≤ l.length + 1 ∧ ∀ x ∈ spl S k acc l, x.length ≤ acc.length + l.length
  | [], k, acc => by rw [spl_nil]; simp
  | c :: r, 0, acc => by
    rw [show spl S 0 acc (c :: r) = (if pre S (c :: r) = true then acc :: spl S (S.length - 1) [] r else spl S 0 (acc ++ [c]) r) from rfl]
    split
    · obtain ⟨h1, h2⟩ := spl_len S r (S.length - 1) []
      refine ⟨by simp only [List.length_cons]; omega, fun x hx => ?_⟩
      rcases List.mem_cons.mp hx with rfl | hx
      · omega
      · have := h2 x hx
        simp only [List.length_cons, List.length_nil] at *
        omega
    · obtain ⟨h1, h2⟩ := spl_len S r 0 (acc ++ [c])
      refine ⟨by simp only [List.length_cons]; omega, fun x hx => ?_⟩
      have := h2 x hx
      simp only [List.length_cons, List.length_append, List.length_nil] at *
      omega
  | c :: r, k + 1, acc => by
    obtain ⟨h1, h2⟩ := spl_len S r k acc
    refine ⟨by simp only [List.length_cons]; show (spl S k acc r).length ≤ _; omega, fun x hx => ?_⟩
    have := h2 x hx
    simp only [List.length_cons]
    omega
/-- the ends of an item ahead of its stride -/
def endsN (l : List Nat) (lo hi : Nat) : List (List Nat) := (spl [45] 0 [] l).map fun p => numN p lo hi
def badSpan (es : List (List Nat)) : Bool := decide (((es.length : Nat) : Int) > 2) || es.any (fun e => decide (e = [])) || decide ((((es.headD []).headD 0 : Nat) : Int) > (((es.getLastD []).headD 0 : Nat) : Int))
def spanN (l : List Nat) (lo hi : Nat) : List Nat :=
  if l = [42] then [lo, hi] else if badSpan (endsN l lo hi) = true then [] else [((endsN l lo hi).headD []).headD 0, ((endsN l lo hi).getLastD []).headD 0]
theorem ends_ne (l : List Nat) (lo hi : Nat) : endsN l lo hi ≠ [] := by
  unfold endsN
  simp [spl_ne]
theorem spanN_shape (l : List Nat) (lo hi : Nat) (h : lo ≤ hi) : spanN l lo hi = [] ∨ ∃ a b, spanN l lo hi = [a, b] ∧ lo ≤ a ∧ a ≤ b ∧ b ≤ hi := by
  unfold spanN
  split
  · exact .inr ⟨lo, hi, rfl, Nat.le_refl _, h, Nat.le_refl _⟩
  · split
    · exact .inl rfl
    · rename_i h2
      refine .inr ⟨_, _, rfl, ?_⟩
      unfold badSpan at h2
      simp only [Bool.or_eq_true, decide_eq_true_eq, List.any_eq_true, not_or, not_exists, not_and] at h2
      obtain ⟨⟨h3, h4⟩, h5⟩ := h2
      have ne := ends_ne l lo hi
      have hh : (endsN l lo hi).headD [] ∈ endsN l lo hi := by
        cases e : endsN l lo hi with
        | nil => exact absurd e ne
        | cons x r => simp
      have hg : (endsN l lo hi).getLastD [] ∈ endsN l lo hi := by
        cases e : endsN l lo hi with
        | nil => exact absurd e ne
        | cons x r =>
          rw [List.getLastD_cons]
          exact List.getLastD_mem_cons
      have key : ∀ e ∈ endsN l lo hi, lo ≤ e.headD 0 ∧ e.headD 0 ≤ hi := by
        intro e he
        have h6 := h4 e he
        obtain ⟨p, _, rfl⟩ := List.mem_map.mp he
        have h7 := numN_one h6
        exact numN_mem (l := p) (by rw [h7]; exact List.mem_singleton.mpr rfl)
      have k1 := key _ hh
      have k2 := key _ hg
      omega
/-- from a to b by steps of s -/
def stepsN (a b s : Nat) : List Nat := (List.range (Builtin.Range.rangeSize (a : Int) ((b : Int) + 1) (s : Int)).toNat).map fun q => a + q * s
theorem steps_nl (a b s : Nat) : rcD (a : Int) (s : Int) (Builtin.Range.rangeSize (a : Int) ((b : Int) + 1) (s : Int)).toNat = nl (stepsN a b s) := by
  unfold rcD nl stepsN
  rw [List.map_map, List.map_map]
  refine List.map_congr_left fun q _ => ?_
  simp
theorem span_nl (a b : Nat) : rgD (a : Int) ((b : Int) + 1 - (a : Int)).toNat = nl ((List.range (b + 1 - a)).map fun q => a + q) := by
  unfold rgD nl
  rw [List.map_map, List.map_map, show ((b : Int) + 1 - (a : Int)).toNat = b + 1 - a by omega]
  refine List.map_congr_left fun q _ => ?_
  simp
theorem mem_steps {a b s i : Nat} (hs : 0 < s) : i ∈ stepsN a b s ↔ a ≤ i ∧ i ≤ b ∧ (i - a) % s = 0 := by
  unfold stepsN Builtin.Range.rangeSize
  rw [if_pos (by omega)]
  simp only [List.mem_map, List.mem_range]
  constructor
  · rintro ⟨q, hq, rfl⟩
    split at hq
    · rename_i hab
      have h1 : (q : Int) ≤ ((b : Int) + 1 - a - 1) / s := by omega
      have h2 := (Int.le_ediv_iff_mul_le (by omega)).mp h1
      refine ⟨by omega, ?_, ?_⟩
      · have : ((q * s : Nat) : Int) ≤ (b : Int) - a := by push_cast; omega
        omega
      · rw [Nat.add_sub_cancel_left, Nat.mul_mod_left]
    · omega
  · rintro ⟨h1, h2, h3⟩
    obtain ⟨q, hq⟩ := Nat.dvd_of_mod_eq_zero h3
    refine ⟨q, ?_, by rw [Nat.mul_comm]; omega⟩
    rw [if_pos (by omega)]
    have h4 : (q : Int) ≤ ((b : Int) + 1 - a - 1) / s := by
      refine (Int.le_ediv_iff_mul_le (by omega)).mpr ?_
      have : ((q * s : Nat) : Int) ≤ (b : Int) - a := by rw [Nat.mul_comm, ← hq]; omega
      push_cast at this
      omega
    omega
theorem steps_len {a b s : Nat} (hs : 0 < s) : (stepsN a b s).length ≤ b + 1 := by
  unfold stepsN
  rw [List.length_map, List.length_range]
  have := (rs_pos (i := (a : Int)) (j := (b : Int) + 1) (c := (s : Int)) (by omega))
  omega
/-- the mask of an item -/
def itemN (l : List Nat) (lo hi : Nat) : Nat :=
  let hs := spl [47] 0 [] l
  match spanN (hs.headD []) lo hi with
  | [a, b] => if 2 < hs.length then 0 else if hs.length = 1 then maskOf ((List.range (b + 1 - a)).map fun q => a + q) else
      match numN (hs.getD 1 []) 1 99 with
      | [s] => maskOf (stepsN a (if onlyF (hs.headD []) = true then hi else b) s)
      | _ => 0
  | _ => 0
theorem mask_ext {a b : List Nat} (h : ∀ i, i ∈ a ↔ i ∈ b) : maskOf a = maskOf b := Nat.eq_of_testBit_eq fun i => by
  rw [maskOf_bit, maskOf_bit, decide_eq_decide]
  exact h i
/-- what an item tells: from a to b by steps of s -/
def toldN (a b s : Nat) : List Nat := ((List.range (b + 1 - a)).filter fun q => decide (q % s = 0)).map fun q => a + q
theorem mem_told {a b s i : Nat} : i ∈ toldN a b s ↔ a ≤ i ∧ i ≤ b ∧ (i - a) % s = 0 := by
  unfold toldN
  simp only [List.mem_map, List.mem_filter, List.mem_range, decide_eq_true_eq]
  constructor
  · rintro ⟨q, ⟨h1, h2⟩, rfl⟩
    exact ⟨by omega, by omega, by rw [Nat.add_sub_cancel_left]; exact h2⟩
  · rintro ⟨h1, h2, h3⟩
    exact ⟨i - a, ⟨by omega, h3⟩, by omega⟩
theorem told_steps {a b s : Nat} (hs : 0 < s) : maskOf (stepsN a b s) = maskOf (toldN a b s) := mask_ext fun i => (mem_steps hs).trans mem_told.symm
theorem told_one {a b : Nat} : maskOf ((List.range (b + 1 - a)).map fun q => a + q) = maskOf (toldN a b 1) := mask_ext fun i => by
  rw [mem_told]
  simp only [List.mem_map, List.mem_range]
  constructor
  · rintro ⟨q, h1, rfl⟩
    exact ⟨by omega, by omega, Nat.mod_one _⟩
  · rintro ⟨h1, h2, _⟩
    exact ⟨i - a, by omega, by omega⟩
/-! the six forms -/
def formT (w a b s : Nat) : List Nat :=
  if w = 0 then [42] else if w = 1 then numL a else if w = 2 then numL a ++ [45] ++ numL b else if w = 3 then [42, 47] ++ numL s else if w = 4 then numL a ++ [47] ++ numL s else numL a ++ [45] ++ numL b ++ [47] ++ numL s
theorem free47 (n : Nat) : 47 ∉ numL n := numL_free (.inl (by decide))
theorem free45 (n : Nat) : 45 ∉ numL n := numL_free (.inl (by decide))
theorem num_ne_star (n : Nat) : numL n ≠ [42] := fun h => by
  have := numL_free (n := n) (s := 42) (.inl (by decide))
  rw [h] at this
  simp at this
theorem span_star {lo hi : Nat} : spanN [42] lo hi = [lo, hi] := if_pos rfl
theorem span_num {n lo hi : Nat} (h : n < 100) (h1 : lo ≤ n) (h2 : n ≤ hi) : spanN (numL n) lo hi = [n, n] := by
  have e : endsN (numL n) lo hi = [[n]] := by
    unfold endsN
    rw [spl_last1 (free45 n), List.nil_append, List.map_singleton, numN_num h h1 h2]
  unfold spanN
  rw [if_neg (num_ne_star n), e]
  simp [badSpan]
theorem span_two {a b lo hi : Nat} (h : b < 100) (h1 : lo ≤ a) (h2 : a ≤ b) (h3 : b ≤ hi) : spanN (numL a ++ [45] ++ numL b) lo hi = [a, b] := by
  have e : endsN (numL a ++ [45] ++ numL b) lo hi = [[a], [b]] := by
    unfold endsN
    rw [List.append_assoc, show ([45] ++ numL b : List Nat) = ((45 :: []) ++ numL b) from rfl, spl_part1 (free45 a), spl_last1 (free45 b), List.nil_append, List.nil_append, List.map_cons, List.map_singleton, numN_num (by omega) h1 (by omega), numN_num h (by omega) h3]
  unfold spanN
  rw [if_neg (fun q => by
    have : 45 ∈ ([42] : List Nat) := q ▸ by simp
    simp at this), e, if_neg (by simp [badSpan]; omega)]
  rfl
theorem free_app {c : Nat} {a b : List Nat} (h1 : c ∉ a) (h2 : c ∉ b) : c ∉ a ++ b := fun h => (List.mem_append.mp h).elim h1 h2
theorem item_one {l : List Nat} {lo hi a b : Nat} (h : 47 ∉ l) (hs : spanN l lo hi = [a, b]) : itemN l lo hi = maskOf (toldN a b 1) := by
  unfold itemN
  rw [spl_last1 h]
  simp only [List.nil_append, List.headD_cons, hs, List.length_singleton]
  exact told_one
theorem item_two {l : List Nat} {lo hi a b s : Nat} (h : 47 ∉ l) (hs : spanN l lo hi = [a, b]) (h1 : 0 < s) (h2 : s < 100) : itemN (l ++ [47] ++ numL s) lo hi = maskOf (toldN a (if onlyF l = true then hi else b) s) := by
  unfold itemN
  rw [List.append_assoc, show ([47] ++ numL s : List Nat) = ((47 :: []) ++ numL s) from rfl, spl_part1 h, spl_last1 (free47 s)]
  simp only [List.nil_append, List.headD_cons, hs, List.length_cons, List.length_nil, List.getD_cons_succ, List.getD_cons_zero, numN_num h2 (show 1 ≤ s from h1) (show s ≤ 99 by omega)]
  exact told_steps h1
/-- the last number that a form tells -/
def formB (w b hi : Nat) : Nat := if w = 0 ∨ w = 3 ∨ w = 4 then hi else b
def formA (w a lo : Nat) : Nat := if w = 0 ∨ w = 3 then lo else a
def formS (w s : Nat) : Nat := if w < 3 then 1 else s
theorem item_form {w a b s lo hi : Nat} (hw : w < 6) (h1 : lo ≤ a) (h2 : a ≤ b) (h3 : b ≤ hi) (h4 : hi < 100) (h5 : 0 < s) (h6 : s < 100) (hab : w = 1 → b = a) : itemN (formT w a b s) lo hi = maskOf (toldN (formA w a lo) (formB w b hi) (formS w s)) := by
  have cs : w = 0 ∨ w = 1 ∨ w = 2 ∨ w = 3 ∨ w = 4 ∨ w = 5 := by omega
  rcases cs with rfl | rfl | rfl | rfl | rfl | rfl
  · exact item_one (l := [42]) (by decide) span_star
  · rw [hab rfl]
    exact item_one (free47 a) (span_num (by omega) h1 (by omega))
  · exact item_one (free_app (free_app (free47 a) (by decide)) (free47 b)) (span_two (by omega) h1 h2 h3)
  · have := item_two (l := [42]) (s := s) (by decide) (span_star (lo := lo) (hi := hi)) h5 h6
    rw [if_neg (by decide)] at this
    exact this
  · have := item_two (l := numL a) (s := s) (free47 a) (span_num (lo := lo) (hi := hi) (n := a) (by omega) h1 (by omega)) h5 h6
    rw [if_pos (onlyF_num a)] at this
    exact this
  · have := item_two (l := numL a ++ [45] ++ numL b) (s := s) (free_app (free_app (free47 a) (by decide)) (free47 b)) (span_two (lo := lo) (hi := hi) (a := a) (b := b) (by omega) h1 h2 h3) h5 h6
    rw [if_neg (by rw [onlyF_not (c := 45) (by simp) (.inl (by decide))]; decide)] at this
    exact this
/-! what read_field tells -/
def itemsN (l : List Nat) : List (List Nat) := spl [44] 0 [] l
def fieldN (l : List Nat) (lo hi : Nat) : Nat := (itemsN l).foldl (fun m p => m ||| itemN p lo hi) 0
def goodF (l : List Nat) (lo hi : Nat) : Prop := l.length ≤ 300 ∧ (itemsN l).length ≤ 40 ∧ ∀ p ∈ itemsN l, itemN p lo hi ≠ 0
theorem maskOf_ne {l : List Nat} {n : Nat} (h : n ∈ l) : maskOf l ≠ 0 := fun e => by
  have := maskOf_bit l n
  rw [e, Nat.zero_testBit] at this
  simp [h] at this
theorem told_ne {a b s : Nat} (h : a ≤ b) : maskOf (toldN a b s) ≠ 0 := maskOf_ne (n := a) (mem_told.mpr ⟨Nat.le_refl _, h, by rw [Nat.sub_self, Nat.zero_mod]⟩)
theorem form_free {w a b s c : Nat} (h1 : c < 48 ∨ 57 < c) (h2 : c ≠ 42) (h3 : c ≠ 45) (h4 : c ≠ 47) : c ∉ formT w a b s := by
  have f := fun n => numL_free (n := n) h1
  unfold formT
  (repeat' split) <;> simp [f, h2, h3, h4]
theorem num2 {n : Nat} (h : n < 100) : (numL n).length ≤ 2 := numL_len (by decide) (by simpa using h)
theorem form_len {w a b s : Nat} (h1 : a < 100) (h2 : b < 100) (h3 : s < 100) : (formT w a b s).length ≤ 8 := by
  have := num2 h1
  have := num2 h2
  have := num2 h3
  unfold formT
  (repeat' split) <;> simp <;> omega
theorem intL_nat (n : Nat) : intL (n : Int) = numL n := by
  unfold intL
  rw [if_neg (by omega)]
  rfl
/-! fields of several items -/
def orN (ts : List (List Nat)) (lo hi : Nat) : Nat := ts.foldl (fun m p => m ||| itemN p lo hi) 0
theorem or_from (f : List Nat → Nat) : ∀ (ts : List (List Nat)) (m i : Nat), (ts.foldl (fun m p => m ||| f p) m).testBit i = (m.testBit i || ts.any fun p => (f p).testBit i)
  | [], m, i => by simp
  | t :: ts, m, i => by
    rw [List.foldl_cons, or_from f ts, Nat.testBit_or, List.any_cons, Bool.or_assoc]
theorem orN_bit (ts : List (List Nat)) (lo hi i : Nat) : (orN ts lo hi).testBit i = ts.any fun p => (itemN p lo hi).testBit i := by
  unfold orN
  rw [or_from (fun p => itemN p lo hi), Nat.zero_testBit, Bool.false_or]
theorem items_join {ts : List (List Nat)} (h : ts ≠ []) (hf : ∀ t ∈ ts, 44 ∉ t) : itemsN (joinL [44] ts) = ts := spl_join h hf
theorem field_join {ts : List (List Nat)} {lo hi : Nat} (h : ts ≠ []) (hf : ∀ t ∈ ts, 44 ∉ t) : fieldN (joinL [44] ts) lo hi = orN ts lo hi := by
  unfold fieldN orN
  rw [items_join h hf]
theorem good_join {ts : List (List Nat)} {lo hi : Nat} (h : ts ≠ []) (hf : ∀ t ∈ ts, 44 ∉ t) (h1 : (joinL [44] ts).length ≤ 300) (h2 : ts.length ≤ 40) (h3 : ∀ t ∈ ts, itemN t lo hi ≠ 0) : goodF (joinL [44] ts) lo hi := by
  unfold goodF
  rw [items_join h hf]
  exact ⟨h1, h2, h3⟩
section
open Classical
end
end Fld
namespace Cal
def isLong (y : Int) : Bool := decide (y % 4 = 0) && (!decide (y % 100 = 0) || decide (y % 400 = 0))
/-- days from day 0 to the year's first -/
def dB (y : Int) : Int := 365 * y + (y + 3) / 4 - (y + 99) / 100 + (y + 399) / 400
abbrev lastsL : List L2.V := [.int 31, .int 28, .int 31, .int 30, .int 31, .int 30, .int 31, .int 31, .int 30, .int 31, .int 30, .int 31]
end Cal
namespace Cal
def yA (d : Int) : Int := d * 400 / 146097
/-- the year of a day -/
def yOf (d : Int) : Int := if d < dB (yA d) then yA d - 1 else if dB (yA d + 1) ≤ d then yA d + 1 else yA d
/-- days of a year ahead of a month -/
def mB (y m : Int) : Int := (if m = 1 then 0 else if m = 2 then 31 else if m = 3 then 59 else if m = 4 then 90 else if m = 5 then 120 else if m = 6 then 151 else if m = 7 then 181 else if m = 8 then 212 else if m = 9 then 243 else if m = 10 then 273 else if m = 11 then 304 else if m = 12 then 334 else 365) + (if 2 < m ∧ isLong y = true then 1 else 0)
/-- the month of a day of the year -/
def mOf (y l : Int) : Int := if l < mB y 2 then 1 else if l < mB y 3 then 2 else if l < mB y 4 then 3 else if l < mB y 5 then 4 else if l < mB y 6 then 5 else if l < mB y 7 then 6 else if l < mB y 8 then 7 else if l < mB y 9 then 8 else if l < mB y 10 then 9 else if l < mB y 11 then 10 else if l < mB y 12 then 11 else 12
def mo (d : Int) : Int := mOf (yOf d) (d - dB (yOf d))
end Cal
/-! moments as texts -/
namespace Mom
open PySem PL Bits TL L2 Fld Cal NumText
def two (n : Nat) : List Nat := [48 + n / 10, 48 + n % 10]
theorem lgI {i : Int} (h : i.natAbs < 2 ^ 1000) : i.natAbs.log2 < 1920 := by
  by_cases q : i.natAbs = 0
  · rw [q]
    decide
  · have := (Nat.log2_lt q).mpr h
    omega
/-! the year -/
/-! a moment's text -/
end Mom
/-! read_field with its refusals; texts that are no items -/
namespace Fld
open PySem PL Bits TL L2
/-- the place of the first wrong one of the first forty items -/
def badAt (its : List (List Nat)) (lo hi : Nat) : Option Nat := (its.take 40).findIdx? fun p => decide (itemN p lo hi = 0)
def fieldR (C : Addr) (l : List Nat) (lo hi : Nat) : Ro :=
  if 300 < l.length then .exc C ["at"] [.int 0] else match badAt (itemsN l) lo hi with
  | some i => .exc C ["at"] [.int (i : Nat)]
  | none => if 40 < (itemsN l).length then .exc C ["at"] [.int 40] else .val (.int (fieldN l lo hi : Nat))
def notTx : D → Bool
  | .v (.str _) => false
  | d => plainD d
def phi_readF (C : Addr) : List D → Ro
  | [d, .v (.int lo), .v (.int hi)] => if 0 ≤ lo ∧ lo ≤ hi ∧ hi < 64 then (match d with
    | .v (.str s) => if s.cps.toList.length ≤ 1000 then fieldR C s.cps.toList lo.toNat hi.toNat else .bad
    | d => if notTx d = true then .exc C ["at"] [.int 0] else .bad) else .bad
  | _ => .bad
theorem readF_tx {C : Addr} {l : List Nat} {lo hi : Nat} (h : lo ≤ hi ∧ hi < 64) (hl : l.length ≤ 1000) : phi_readF C [.tx l, .int (lo : Nat), .int (hi : Nat)] = fieldR C l lo hi := by
  unfold phi_readF
  simp only
  rw [if_pos (by omega), if_pos (by simpa using hl), Int.toNat_natCast, Int.toNat_natCast]
theorem readF_odd {C : Addr} {d : D} {lo hi : Nat} (h : lo ≤ hi ∧ hi < 64) (hd : notTx d = true) : phi_readF C [d, .int (lo : Nat), .int (hi : Nat)] = .exc C ["at"] [.int 0] := by
  unfold phi_readF
  simp only
  rw [if_pos (by omega)]
  split
  · cases hd
  · rw [if_pos hd]
theorem fieldR_good {C : Addr} {l : List Nat} {lo hi : Nat} (g : goodF l lo hi) : fieldR C l lo hi = .val (.int (fieldN l lo hi : Nat)) := by
  obtain ⟨g1, g2, g3⟩ := g
  unfold fieldR
  rw [if_neg (by omega), show badAt (itemsN l) lo hi = none from List.findIdx?_eq_none_iff.mpr fun x hx => by simpa using g3 x (List.mem_of_mem_take hx)]
  simp only
  rw [if_neg (by omega)]
theorem fieldR_long {C : Addr} {l : List Nat} {lo hi : Nat} (h : 300 < l.length) : fieldR C l lo hi = .exc C ["at"] [.int 0] := if_pos h
theorem fieldR_bad {C : Addr} {l : List Nat} {lo hi i : Nat} (h : l.length ≤ 300) (hb : badAt (itemsN l) lo hi = some i) : fieldR C l lo hi = .exc C ["at"] [.int (i : Nat)] := by
  unfold fieldR
  rw [if_neg (by omega), hb]
theorem fieldR_many {C : Addr} {l : List Nat} {lo hi : Nat} (h : l.length ≤ 300) (hb : badAt (itemsN l) lo hi = none) (hm : 40 < (itemsN l).length) : fieldR C l lo hi = .exc C ["at"] [.int 40] := by
  unfold fieldR
  rw [if_neg (by omega), hb]
  simp only
  rw [if_pos hm]
theorem findIdx_at {α : Type} {q : α → Bool} : ∀ {l : List α} {i : Nat} {x : α}, l[i]? = some x → q x = true → (∀ j y, j < i → l[j]? = some y → q y = false) → l.findIdx? q = some i
  | [], i, x, h, _, _ => by simp at h
  | a :: l, 0, x, h, hx, _ => by
    simp at h
    subst h
    rw [List.findIdx?_cons, if_pos hx]
  | a :: l, i + 1, x, h, hx, hn => by
    rw [List.findIdx?_cons, if_neg (by rw [hn 0 a (by omega) rfl]; decide), findIdx_at (i := i) (by simpa using h) hx fun j y hj hy => hn (j + 1) y (by omega) (by simpa using hy)]
    rfl
theorem badAt_at {its : List (List Nat)} {lo hi i : Nat} {x : List Nat} (hi40 : i < 40) (h : its[i]? = some x) (hx : itemN x lo hi = 0) (hn : ∀ j y, j < i → its[j]? = some y → itemN y lo hi ≠ 0) : badAt its lo hi = some i := by
  refine findIdx_at (x := x) ?_ (by simpa using hx) fun j y hj hy => ?_
  · rw [List.getElem?_take_of_lt hi40]
    exact h
  · rw [List.getElem?_take_of_lt (by omega)] at hy
    simpa using hn j y hj hy
theorem badAt_none {its : List (List Nat)} {lo hi : Nat} (hn : ∀ j y, j < 40 → its[j]? = some y → itemN y lo hi ≠ 0) : badAt its lo hi = none := by
  refine List.findIdx?_eq_none_iff.mpr fun x hx => ?_
  obtain ⟨j, hj, e⟩ := List.mem_iff_getElem.mp hx
  have h1 : (its.take 40)[j]? = some x := by rw [← e]; exact List.getElem?_eq_getElem hj
  have h2 : j < 40 := by
    rw [List.length_take] at hj
    omega
  rw [List.getElem?_take_of_lt h2] at h1
  simpa using hn j x h2 h1
theorem cut40 (its : List (List Nat)) : cutD (txs its) none (some 40) = (its.take 40).map D.tx := by
  unfold cutD txs
  rw [List.length_map, show HT.sIx its.length 0 none = 0 from rfl, List.drop_zero, Nat.sub_zero, show HT.sIx its.length its.length (some 40) = min 40 its.length by
    unfold HT.sIx
    simp only
    split <;> omega]
  rw [← List.map_take]
  congr 1
  by_cases h : 40 ≤ its.length
  · rw [show min 40 its.length = 40 by omega]
  · rw [show min 40 its.length = its.length by omega, List.take_of_length_le (Nat.le_refl _), List.take_of_length_le (by omega)]
/-- an enumerate loop whose turn may raise, the place among the exception's fields -/
theorem fo_enumX {X : Cx} {W : WX} {tg : PySem.Expr} {body : List Stmt} {α β : Type} {F : α → D} (R : β → List E) (f : β → α → β) (q : α → Bool) {C : Addr} {ns : List Str} (g : Nat → List D) : ∀ {as : List α} {n : Nat} {y : β} (p : β → List α → Prop), p y as →
    (∀ y x r (n : Nat), p y (x :: r) → ∃ ρ1, XG X (R y) tg (.tup [.int (n : Nat), F x]) ρ1 ∧ (q x = true → ∃ ρe, XB X W ρ1 body (.exc C ns (g n) ρe)) ∧ (q x = false → p (f y x) r ∧ XB X W ρ1 body (.nx (R (f y x))))) →
    ∃ o, FoD X W tg body (enL n (as.map F)) (R y) o ∧ match as.findIdx? q with
      | none => o = .nx (R (as.foldl f y))
      | some i => ∃ ρe, o = .exc C ns (g (n + i)) ρe
  | [], n, y, p, h0, h => ⟨_, .nil, rfl⟩
  | x :: as, n, y, p, h0, h => by
    obtain ⟨ρ1, h1, h2, h3⟩ := h y x as n h0
    rw [List.findIdx?_cons]
    cases e : q x with
    | true =>
      obtain ⟨ρe, h4⟩ := h2 e
      rw [if_pos rfl]
      exact ⟨_, .out h1 h4 trivial (by simp) (by simp), ρe, rfl⟩
    | false =>
      obtain ⟨h4, h5⟩ := h3 e
      obtain ⟨o, h6, h7⟩ := fo_enumX R f q g (as := as) (n := n + 1) (y := f y x) p h4 h
      rw [if_neg (by decide)]
      refine ⟨o, .next h1 h5 (.inl rfl) h6, ?_⟩
      cases z : as.findIdx? q with
      | none =>
        rw [z] at h7
        exact h7
      | some i =>
        rw [z] at h7
        simp only [Option.map_some]
        rw [show n + (i + 1) = n + 1 + i by omega]
        exact h7
theorem x_enumX {X : Cx} {W : WX} {P : Program} {w : World} {K : PySem.W.Frag} {mg : Str → Option Value} {base : Heap} {k : Nat} {N : List Str} {nk : List (Str × NameKind)} {tg it : PySem.Expr} {body more : List Stmt} {pos : Pos} {α β : Type} {F : α → D} (B : Bx X P w K mg base k N nk) (S : Bs X W) (R : β → List E) (f : β → α → β) (q : α → Bool) {C : Addr} {ns : List Str} (g : Nat → List D) {as : List α} {y : β} {r0 : Ro} (p : β → List α → Prop)
    (hi : XI X (R y) tg it (enL 0 (as.map F))) (h0 : p y as) (h : ∀ y x r (n : Nat), p y (x :: r) → ∃ ρ1, XG X (R y) tg (.tup [.int (n : Nat), F x]) ρ1 ∧ (q x = true → ∃ ρe, XB X W ρ1 body (.exc C ns (g n) ρe)) ∧ (q x = false → p (f y x) r ∧ XB X W ρ1 body (.nx (R (f y x)))))
    (t : as.findIdx? q = none → ∃ o, XB X W (R (as.foldl f y)) more o ∧ Leads o r0) (hs : ∀ x, foldedSetIterable it X.env x = pure x := by intro _; rfl) :
    ∃ o, XB X W (R y) (.For tg it body [] pos :: more) o ∧ Leads o (match as.findIdx? q with
      | none => r0
      | some i => .exc C ns (g i)) := by
  obtain ⟨o, hf, ho⟩ := fo_enumX R f q g (as := as) (n := 0) (y := y) p h0 h
  cases e : as.findIdx? q with
  | some i =>
    rw [e] at ho
    obtain ⟨ρe, rfl⟩ := ho
    refine ⟨_, x_forX B S hi hf trivial hs, ?_⟩
    rw [Nat.zero_add]
    exact .exc _ _ _ _
  | none =>
    rw [e] at ho
    simp only at ho ⊢
    subst ho
    obtain ⟨o2, h1, h2⟩ := t e
    exact ⟨o2, x_for B S hi hf h1 hs, h2⟩
/-! texts that are no items -/
theorem numN_wide {l : List Nat} {lo hi : Nat} (h : hi ≤ 99) : numN l lo hi = [] ∨ numN l lo hi = numN l 0 99 := by
  unfold numN
  split
  · exact .inl rfl
  · split
    · rename_i q
      rw [if_pos ⟨Nat.zero_le _, by omega⟩]
      exact .inr rfl
    · exact .inl rfl
theorem ends_wide {l : List Nat} {lo hi : Nat} (h : hi ≤ 99) : (∃ e ∈ endsN l lo hi, e = []) ∨ endsN l lo hi = endsN l 0 99 := by
  unfold endsN
  generalize TL.spl [45] 0 [] l = ps
  induction ps with
  | nil => exact .inr rfl
  | cons p ps ih =>
    rw [List.map_cons, List.map_cons]
    rcases numN_wide (l := p) (lo := lo) h with e | e
    · exact .inl ⟨_, List.mem_cons_self, e⟩
    · rcases ih with ⟨x, hx, e2⟩ | e2
      · exact .inl ⟨x, List.mem_cons_of_mem _ hx, e2⟩
      · rw [e, e2]
        exact .inr rfl
theorem span_wide {l : List Nat} {lo hi : Nat} (h : hi ≤ 99) (hs : l ≠ [42]) : spanN l lo hi = [] ∨ spanN l lo hi = spanN l 0 99 := by
  unfold spanN
  rw [if_neg hs, if_neg hs]
  rcases ends_wide (l := l) (lo := lo) h with ⟨e, he, e2⟩ | e
  · rw [if_pos (by
      unfold badSpan
      rw [Bool.or_eq_true, Bool.or_eq_true, List.any_eq_true]
      exact .inl (.inr ⟨e, he, by simpa using e2⟩))]
    exact .inl rfl
  · rw [e]
    exact .inr rfl
theorem item_nil {l : List Nat} {lo hi : Nat} (h : spanN ((TL.spl [47] 0 [] l).headD []) lo hi = []) : itemN l lo hi = 0 := by
  unfold itemN
  simp only [h]
theorem txs_ix {its : List (List Nat)} {k : Nat} (hk : k < its.length) : atI (txs its) (k : Int) = some (.tx (its.getD k [])) := by
  refine atI_nat ?_
  unfold txs
  rw [List.getElem?_map, List.getD_eq_getElem?_getD, List.getElem?_eq_getElem hk]
  rfl
theorem txs_set (ts : List (List Nat)) (i : Nat) (t : List Nat) : (txs ts).set i (.tx t) = txs (ts.set i t) := by
  unfold txs
  rw [List.map_set]
theorem steps_ne {a b s : Nat} (h : a ≤ b) (hs : 0 < s) : maskOf (stepsN a b s) ≠ 0 := maskOf_ne (n := a) ((mem_steps hs).mpr ⟨Nat.le_refl _, h, by rw [Nat.sub_self, Nat.zero_mod]⟩)
/-- what is wrong by its form is wrong within any bounds -/
theorem item_wide {l : List Nat} {lo hi : Nat} (h : hi ≤ 99) (hw : itemN l 0 99 = 0) : itemN l lo hi = 0 := by
  have key : ∀ a b, spanN ((TL.spl [47] 0 [] l).headD []) 0 99 = [a, b] → ∀ c d, spanN ((TL.spl [47] 0 [] l).headD []) lo hi = [c, d] → itemN l lo hi = 0 := by
    intro a b e1 c d e2
    obtain ⟨a', b', e3, h1, h2, h3⟩ := (spanN_shape ((TL.spl [47] 0 [] l).headD []) 0 99 (by decide)).resolve_left (by rw [e1]; simp)
    rw [e1] at e3
    simp only [List.cons.injEq, and_true] at e3
    obtain ⟨rfl, rfl⟩ := e3
    unfold itemN at hw ⊢
    simp only [e1] at hw
    simp only [e2]
    by_cases q : 2 < (TL.spl [47] 0 [] l).length
    · rw [if_pos q]
    · rw [if_neg q] at hw ⊢
      by_cases q2 : (TL.spl [47] 0 [] l).length = 1
      · rw [if_pos q2] at hw
        exact absurd hw (told_one ▸ told_ne h2)
      · rw [if_neg q2] at hw ⊢
        split
        · rename_i z hz
          rw [hz] at hw
          have hz2 := numN_mem (l := (TL.spl [47] 0 [] l).getD 1 []) (lo := 1) (hi := 99) (n := z) (by rw [hz]; exact List.mem_singleton.mpr rfl)
          exact absurd hw (steps_ne (by split <;> omega) (by omega))
        · rfl
  by_cases hs : (TL.spl [47] 0 [] l).headD [] = [42]
  · exact key 0 99 (by rw [hs]; rfl) lo hi (by rw [hs]; rfl)
  · rcases span_wide (lo := lo) h hs with e | e
    · exact item_nil e
    · rcases spanN_shape ((TL.spl [47] 0 [] l).headD []) 0 99 (by decide) with e3 | ⟨a, b, e3, _⟩
      · exact item_nil (e.trans e3)
      · exact key a b e3 a b (e.trans e3)
def gA1 (lo : Nat) : List (List Nat) :=
  [[], [32], [120], [42, 42], [42] ++ numL lo, numL lo ++ [45], [45] ++ numL lo, [45, 45], numL lo ++ [45, 45] ++ numL lo, numL lo ++ [45] ++ numL lo ++ [45] ++ numL lo] ++
  [[48] ++ numL lo, [48, 48] ++ numL lo, [43] ++ numL lo, [32] ++ numL lo, numL lo ++ [32], numL lo ++ [46, 48], numL lo ++ [95, 48], [76], numL lo ++ [45, 42]] ++
  [numL lo ++ [47], [47], [47, 49], [42, 47], [42, 47, 48], [42, 47, 49, 48, 48], [42, 47, 48, 49], [42, 47, 45, 49], [42, 47, 49, 47, 49], numL lo ++ [47, 49, 47], [42, 47, 42], numL lo ++ [47, 47, 49]]
def gB1 (lo hi : Nat) : List (List Nat) := [numL lo ++ [45] ++ numL (hi + 1), numL (hi + 1), numL (hi + 1) ++ [47, 49]]
def gA2 (lo : Nat) : List (List Nat) := [numL lo ++ [45, 48] ++ numL lo, [42, 45] ++ numL lo]
def gB2 (lo hi : Nat) : List (List Nat) := [numL hi ++ [45] ++ intL ((lo : Int) - 1), intL ((lo : Int) - 1)]
def gA3 (lo : Nat) : List (List Nat) := [[42, 47, 49, 32], numL lo ++ [45] ++ numL lo ++ [47, 48]] ++ [List.replicate 60 57, numL lo ++ [59] ++ numL lo, numL lo ++ [10], [9] ++ numL lo, numL lo ++ [45] ++ numL lo ++ [47]]
def gB3 (lo hi : Nat) : List (List Nat) := if lo < hi then [numL hi ++ [45] ++ numL lo] else []
def wrongL (lo hi : Nat) : List (List Nat) := gA1 lo ++ (gB1 lo hi ++ gA2 lo) ++ (gB2 lo hi ++ gA3 lo) ++ gB3 lo hi
def okW (lo hi : Nat) (t : List Nat) : Bool := decide (itemN t lo hi = 0) && (!t.contains 44 && Nat.ble t.length 60)
theorem okW_of {lo hi : Nat} {t : List Nat} (h : okW lo hi t = true) : itemN t lo hi = 0 ∧ 44 ∉ t ∧ t.length ≤ 60 := by
  unfold okW at h
  simp only [Bool.and_eq_true, decide_eq_true_eq, Bool.not_eq_true', Nat.ble_eq] at h
  exact ⟨h.1, by simpa using h.2.1, h.2.2⟩
theorem wrong_a : ((List.range 64).all fun lo => (gA1 lo ++ gA2 lo ++ gA3 lo).all (okW 0 99)) = true := by decide +kernel
abbrev chunkB (a : Nat) : Bool := (List.range 16).all fun i => (List.range 64).all fun hi => !Nat.ble (a + i) hi || (gB1 (a + i) hi ++ gB2 (a + i) hi ++ gB3 (a + i) hi).all (okW (a + i) hi)
theorem wrong_b0 : chunkB 0 = true := by decide +kernel
theorem wrong_b1 : chunkB 16 = true := by decide +kernel
theorem wrong_b2 : chunkB 32 = true := by decide +kernel
theorem wrong_b3 : chunkB 48 = true := by decide +kernel
theorem chunk_at {a lo hi : Nat} (h : chunkB a = true) (h1 : a ≤ lo) (h2 : lo < a + 16) (h3 : lo ≤ hi) (h4 : hi < 64) {t : List Nat} (ht : t ∈ gB1 lo hi ++ gB2 lo hi ++ gB3 lo hi) : okW lo hi t = true := by
  have k := List.all_eq_true.mp (List.all_eq_true.mp h (lo - a) (List.mem_range.mpr (by omega))) hi (List.mem_range.mpr h4)
  rw [show a + (lo - a) = lo by omega, show Nat.ble lo hi = true from Nat.ble_eq.mpr h3, Bool.not_true, Bool.false_or] at k
  exact List.all_eq_true.mp k t ht
theorem wrong_ok {lo hi : Nat} (h : lo ≤ hi ∧ hi < 64) {t : List Nat} (ht : t ∈ wrongL lo hi) : itemN t lo hi = 0 ∧ 44 ∉ t ∧ t.length ≤ 60 := by
  have kA : t ∈ gA1 lo ++ gA2 lo ++ gA3 lo → itemN t lo hi = 0 ∧ 44 ∉ t ∧ t.length ≤ 60 := fun q => by
    have := okW_of (List.all_eq_true.mp (List.all_eq_true.mp wrong_a lo (List.mem_range.mpr (by omega))) t q)
    exact ⟨item_wide (by omega) this.1, this.2⟩
  have kB : t ∈ gB1 lo hi ++ gB2 lo hi ++ gB3 lo hi → itemN t lo hi = 0 ∧ 44 ∉ t ∧ t.length ≤ 60 := fun q => by
    by_cases z1 : lo < 16
    · exact okW_of (chunk_at wrong_b0 (Nat.zero_le _) (by omega) h.1 h.2 q)
    by_cases z2 : lo < 32
    · exact okW_of (chunk_at wrong_b1 (by omega) (by omega) h.1 h.2 q)
    by_cases z3 : lo < 48
    · exact okW_of (chunk_at wrong_b2 (by omega) (by omega) h.1 h.2 q)
    exact okW_of (chunk_at wrong_b3 (by omega) (by omega) h.1 h.2 q)
  unfold wrongL at ht
  simp only [List.mem_append] at ht kA kB
  rcases ht with ((ht | ht | ht) | ht | ht) | ht
  · exact kA (.inl (.inl ht))
  · exact kB (.inl (.inl ht))
  · exact kA (.inl (.inr ht))
  · exact kB (.inl (.inr ht))
  · exact kA (.inr ht)
  · exact kB (.inr ht)
end Fld
/-! sorted(set(a list of whole numbers)) -/
namespace PL
open PySem PySem.Spec PyProof.Rows L2
open Evl (Ex)
abbrev nwSet (w : World) : Obj := { cls := .type "set", dict := none, data := .set #[] 0 (.fresh 0 0 (!w.params.followText "set-order")) }
section
variable {P : Program} {w : World} {A : Around} {E : Value → Shared → Prop} {s : Shared}
/-- the state with the new set -/
abbrev stS (w : World) (s : Shared) : Shared := { s with heap := s.heap.push (nwSet w) }
abbrev EndS (w : World) (s : Shared) (ns : List Int) (r : Value) (z : Shared) : Prop := r = .none ∧ ∃ g k c, z = { s with heap := g, toks := k } ∧ SetR w g s.heap.objs.size (fun j => decide (j ∈ ns)) c ∧ c ≤ ns.length ∧ ∀ b o, s.heap.get? b = some o → g.get? b = some o
end
section
variable {X : Cx}
end
section
variable {X : Cx} {P : Program} {w : World} {K : PySem.W.Frag} {mg : Str → Option Value} {base : Heap} {k k' n : Nat} {N : List Str} {nk : List (Str × NameKind)} {W : WX}
variable {ρ : List E} {e a b c tg : Expr} {pos p p' pos2 p2 : Pos}
end
end PL
/-! lists of objects: told with their very items; back to front -/
namespace PL
open PySem PySem.Spec L2 PyProof.Rows
open Evl (Ex)
section
variable {K : PySem.W.Frag} {H : Hp}
end
section
variable {X : Cx} {P : Program} {w : World} {K : PySem.W.Frag} {mg : Str → Option Value} {base : Heap} {k k' n : Nat} {N : List Str} {nk : List (Str × NameKind)} {W : WX}
variable {ρ ρ' ρ1 ρ2 : List E} {e a b c tg : Expr} {es : List Expr} {d f : D} {ds l m : List D} {pos p p' p2 : Pos} {s : Str} {o o1 : Out} {kd : NameKind} {φ : List D → Ro} {body sts other more : List Stmt} {st : Stmt} {Bo : Bool} {us : List V} {te : TE} {tk : TO} {sx : Expr}
/-! xs[::-1] -/
end
end PL
/-! long lists' numbers each once; defs handed on as values -/
namespace PL
open PySem PySem.Spec PyProof.Rows L2
open Evl (Ex)
section
variable {X : Cx}
end
section
variable {X : Cx} {P : Program} {w : World} {K : PySem.W.Frag} {mg : Str → Option Value} {base : Heap} {k k' n : Nat} {N : List Str} {nk : List (Str × NameKind)} {W : WX} {kd : NameKind} {s : Str} {φ : List D → Ro} {d : D} {ds l : List D} {es : List Expr}
variable {ρ : List E} {e a b c tg : Expr} {pos p p' pos2 p2 : Pos}
theorem rpL_rep {K : PySem.W.Frag} {H : Hp} {l : List D} {xs : List V} (h : RpL K H l xs) : ∀ n : Nat, RpL K H (List.replicate n l).flatten (List.replicate n xs).flatten
  | 0 => rpL_nil
  | n + 1 => by
    rw [List.replicate_succ, List.replicate_succ, List.flatten_cons, List.flatten_cons]
    exact rpL_app h (rpL_rep h n)
/-- [..] * n -/
theorem x_repL {i : Int} (ha : XO X ρ a l) (hb : XE X ρ b (.int i)) (h : 0 ≤ i ∧ i < 1000 ∧ l.length * i.toNat ≤ 100000) : XO X ρ (.BinOp a .Mult b pos) (List.replicate i.toNat l).flatten :=
  PE.imp (pe_op op_rep ha hb) fun σ H Q ⟨Bv, Bs, Hv, g, k⟩ => ⟨Bv, Bs, Hv, g, fun q xs H1 Hv1 g1 e1 h1 h2 h3 h4 h5 h6 => ⟨Bv, Bs, Hv1, g1, fun v2 H2 Hv2 g2 e2 r2 => by
    refine ⟨q, i, xs, rfl, rp_v r2, e2.hh _ _ h3, by omega, by omega, Evl.sz_of (by rw [rpL_len h4]; exact h.2.2), fun r hr => ?_⟩
    have x := e1.trans e2
    exact k r _ _ _ (g2.newH hr) (x.trans (Vx.newH g2.vx.vh hr)) (Evl.fresh_back g2.vx.hh hr) (Evl.fresh_back g2.vx.vh hr) upd_same (rpL_rep (rpL_mono e2.vv h4) _) (g2.notOwn_new hr) (Evl.fresh_back x.hh hr)⟩⟩
/-- a def's value -/
structure FnA (P : Program) (w : World) (K : PySem.W.Frag) (mg : Str → Option Value) (base : Heap) (u : Addr) (k n : Nat) (φ : List D → Ro) : Prop where
  ex : ∃ fd ps, FnOk P w K mg base (L2N.CX P w) k u fd ps (spD K n φ) ∧ PySem.W.keepIn K (.ref u) = true ∧ Binds K fd ps []
theorem FnC.addr (F : FnC P w K mg base s k n φ) : ∃ u, mg s = some (.ref u) ∧ FnA P w K mg base u k n φ := by
  obtain ⟨f, fd, ps, h1, h2, h3, h4⟩ := F.ex
  exact ⟨f, h1, fd, ps, h2, h3, h4⟩
/-- the same address serves -/
theorem FnC.at (F : FnC P w K mg base s k n φ) {u : Addr} (h : mg s = some (.ref u)) : FnA P w K mg base u k n φ := by
  obtain ⟨v, h1, h2⟩ := F.addr
  rw [h1] at h
  cases h
  exact h2
end
section
variable {P : Program} {w : World} {K : PySem.W.Frag} {mg : Str → Option Value} {base : Heap}
end
end PL
/-! == of plain values of two sorts, None among them -/
namespace PL
open PySem PySem.Spec L2
open Evl (Ex)
section
variable {X : Cx} {ρ : List E} {a b : Expr} {pos : Pos} {u w : V}
end
section
variable {X : Cx} {P : Program} {w : World} {K : PySem.W.Frag} {mg : Str → Option Value} {base : Heap} {k : Nat} {N : List Str} {nk : List (Str × NameKind)} {ρ : List E} {e : Expr} {pos p : Pos}
end
section
variable {X : Cx} {W : WX} {ρ : List E} {tg : Expr} {body : List Stmt}
end
section
variable {X : Cx} {ρ : List E} {a b : Expr} {pos : Pos} {t : List Nat} {ts : List (List Nat)}
end
section
variable {X : Cx} {P : Program} {w : World} {K : PySem.W.Frag} {mg : Str → Option Value} {base : Heap} {k : Nat} {N : List Str} {nk : List (Str × NameKind)} {ρ : List E} {a b c tg : Expr} {pos p : Pos}
end
section
variable {X : Cx} {W : WX} {P : Program} {w : World} {K : PySem.W.Frag} {mg : Str → Option Value} {base : Heap} {k : Nat} {N : List Str} {nk : List (Str × NameKind)} {ρ ρ2 : List E} {a b c tg it : Expr} {body more : List Stmt} {pos p : Pos} {o o2 : Out} {ds : List D}
theorem xv_orT {v : Bool} {rest : List Expr} (h : XT X ρ a v) (hv : v = true) : XV X ρ (.BoolOp .Or (a :: b :: rest) pos) true := by
  subst hv
  exact xv_or (k := true) h fun q => nomatch q
end
section
open PyProof.Rows
variable {X : Cx} {CX : CXT} {k k' n : Nat} {f u : Addr} {sp : Sp} {E0 : XK} {fe e : Expr} {es : List Expr} {t : TA} {tf : TE} {p pos : Pos}
variable {P : Program} {w : World} {K : PySem.W.Frag} {mg : Str → Option Value} {base : Heap} {N : List Str} {nk : List (Str × NameKind)} {ρ : List E} {d : D} {ds : List D} {φ : List D → Ro}
end
end PL
namespace W24
open PySem PySem.Spec L2 PL
open Dig Bits Fld TL
abbrev d_FIGURES : D := .tx [48, 49, 50, 51, 52, 53, 54, 55, 56, 57]
abbrev d_MOST_STRIDE : D := .int 99
abbrev d_MOST_SIGNS : D := .int 300
abbrev d_MOST_ITEMS : D := .int 40
def topS (i : Nat) : Stmt := tpS PySem.Challenge.pw_fivefields_k24_first_wrong_item i
abbrev s_mask_of : Stmt := topS 17
abbrev nk_mask_of : List (Str × NameKind) := [("numbers", .«local»), ("mask", .«local»), ("number", .«local»)]
abbrev N_mask_of : List Str := ["numbers", "mask", "number"]
theorem sc_mask_of : FnScope N_mask_of ["numbers"] (defScope s_mask_of) := ⟨rfl, rfl, rfl, by decide +kernel, rfl, by decide +kernel, by decide +kernel⟩
abbrev s_only_figures : Stmt := topS 12
abbrev nk_only_figures : List (Str × NameKind) := [("signs", .«local»), ("sign", .«local»), ("FIGURES", .globalImplicit)]
abbrev N_only_figures : List Str := ["signs", "sign"]
theorem sc_only_figures : FnScope N_only_figures ["signs"] (defScope s_only_figures) := ⟨rfl, rfl, rfl, by decide +kernel, rfl, by decide +kernel, by decide +kernel⟩
abbrev s_number_in : Stmt := topS 18
abbrev nk_number_in : List (Str × NameKind) := [("text", .«local»), ("low", .cell), ("high", .cell), ("only_figures", .globalImplicit), ("len", .globalImplicit), ("int", .globalImplicit)]
abbrev N_number_in : List Str := ["text", "low", "high", "number"]
theorem sc_number_in : FnScope N_number_in ["text", "low", "high"] (defScope s_number_in) := ⟨rfl, rfl, rfl, by decide +kernel, rfl, by decide +kernel, by decide +kernel⟩
abbrev s_span_in : Stmt := topS 19
abbrev nk_span_in : List (Str × NameKind) := [("text", .«local»), ("low", .cell), ("high", .cell), ("ends", .«local»), ("len", .globalImplicit)]
abbrev N_span_in : List Str := ["text", "low", "high", "ends", "part"]
theorem sc_span_in : FnScope N_span_in ["text", "low", "high"] (defScope s_span_in) := ⟨rfl, rfl, rfl, by decide +kernel, rfl, by decide +kernel, by decide +kernel⟩
abbrev s_item_mask : Stmt := topS 20
abbrev nk_item_mask : List (Str × NameKind) := [("item", .«local»), ("low", .«local»), ("high", .«local»), ("halves", .«local»), ("span", .«local»), ("stride", .«local»), ("span_in", .globalImplicit), ("len", .globalImplicit), ("mask_of", .globalImplicit), ("list", .globalImplicit), ("range", .globalImplicit), ("number_in", .globalImplicit), ("MOST_STRIDE", .globalImplicit), ("only_figures", .globalImplicit)]
abbrev N_item_mask : List Str := ["item", "low", "high", "halves", "span", "stride"]
theorem sc_item_mask : FnScope N_item_mask ["item", "low", "high"] (defScope s_item_mask) := ⟨rfl, rfl, rfl, by decide +kernel, rfl, by decide +kernel, by decide +kernel⟩
abbrev s_read_field : Stmt := topS 21
abbrev nk_read_field : List (Str × NameKind) := [("text", .«local»), ("low", .«local»), ("high", .«local»), ("mask", .«local»), ("items", .«local»), ("at", .«local»), ("item", .«local»), ("here", .«local»), ("isinstance", .globalImplicit), ("str", .globalImplicit), ("len", .globalImplicit), ("MOST_SIGNS", .globalImplicit), ("NoField", .globalImplicit), ("enumerate", .globalImplicit), ("MOST_ITEMS", .globalImplicit), ("item_mask", .globalImplicit)]
abbrev N_read_field : List Str := ["text", "low", "high", "mask", "items", "at", "item", "here"]
theorem sc_read_field : FnScope N_read_field ["text", "low", "high"] (defScope s_read_field) := ⟨rfl, rfl, rfl, by decide +kernel, rfl, by decide +kernel, by decide +kernel⟩
abbrev s_law_cell_at : Stmt := topS 23
abbrev nk_law_cell_at : List (Str × NameKind) := [("_law_script", .«local»), ("_law_k", .«local»), ("len", .globalImplicit)]
abbrev N_law_cell_at : List Str := ["_law_script", "_law_k"]
theorem sc_law_cell_at : FnScope N_law_cell_at ["_law_script", "_law_k"] (defScope s_law_cell_at) := ⟨rfl, rfl, rfl, by decide +kernel, rfl, by decide +kernel, by decide +kernel⟩
abbrev s_law_stir : Stmt := topS 24
abbrev nk_law_stir : List (Str × NameKind) := [("_law_number", .«local»), ("_law_first", .«local»), ("_law_second", .«local»)]
abbrev N_law_stir : List Str := ["_law_number", "_law_first", "_law_second"]
theorem sc_law_stir : FnScope N_law_stir ["_law_number"] (defScope s_law_stir) := ⟨rfl, rfl, rfl, by decide +kernel, rfl, by decide +kernel, by decide +kernel⟩
abbrev s_law_digits : Stmt := topS 25
abbrev nk_law_digits : List (Str × NameKind) := [("_law_cell", .«local»), ("_law_sizes", .«local»), ("_law_mixed", .«local»), ("_law_found", .«local»), ("_law_size", .«local»), ("abs", .globalImplicit), ("_law_stir", .globalImplicit)]
abbrev N_law_digits : List Str := ["_law_cell", "_law_sizes", "_law_mixed", "_law_found", "_law_size"]
theorem sc_law_digits : FnScope N_law_digits ["_law_cell", "_law_sizes", "_law_mixed"] (defScope s_law_digits) := ⟨rfl, rfl, rfl, by decide +kernel, rfl, by decide +kernel, by decide +kernel⟩
abbrev s_law_whole : Stmt := topS 26
abbrev nk_law_whole : List (Str × NameKind) := [("_law_found", .«local»), ("isinstance", .globalImplicit), ("int", .globalImplicit), ("bool", .globalImplicit)]
abbrev N_law_whole : List Str := ["_law_found"]
theorem sc_law_whole : FnScope N_law_whole ["_law_found"] (defScope s_law_whole) := ⟨rfl, rfl, rfl, by decide +kernel, rfl, by decide +kernel, by decide +kernel⟩
abbrev s_law_bounds : Stmt := topS 27
abbrev nk_law_bounds : List (Str × NameKind) := [("_law_which", .«local»), ("_law_one", .«local»), ("_law_other", .«local»), ("_law_some", .«local»)]
abbrev N_law_bounds : List Str := ["_law_which", "_law_one", "_law_other", "_law_some"]
theorem sc_law_bounds : FnScope N_law_bounds ["_law_which", "_law_one", "_law_other"] (defScope s_law_bounds) := ⟨rfl, rfl, rfl, by decide +kernel, rfl, by decide +kernel, by decide +kernel⟩
abbrev s_law_item : Stmt := topS 28
abbrev nk_law_item : List (Str × NameKind) := [("_law_digits_here", .«local»), ("_law_low", .«local»), ("_law_high", .«local»), ("_law_form", .«local»), ("_law_one", .«local»), ("_law_other", .«local»), ("_law_far", .«local»), ("_law_steps", .«local»), ("_law_first", .«local»), ("_law_last", .«local»), ("_law_step", .«local»), ("str", .globalImplicit)]
abbrev N_law_item : List Str := ["_law_digits_here", "_law_low", "_law_high", "_law_form", "_law_one", "_law_other", "_law_far", "_law_steps", "_law_first", "_law_last", "_law_step"]
theorem sc_law_item : FnScope N_law_item ["_law_digits_here", "_law_low", "_law_high"] (defScope s_law_item) := ⟨rfl, rfl, rfl, by decide +kernel, rfl, by decide +kernel, by decide +kernel⟩
abbrev s_law_wrong : Stmt := topS 31
abbrev nk_law_wrong : List (Str × NameKind) := [("_law_cell", .«local»), ("_law_low", .«local»), ("_law_high", .«local»), ("_law_one", .«local»), ("_law_some", .«local»), ("str", .globalImplicit), ("len", .globalImplicit)]
abbrev N_law_wrong : List Str := ["_law_cell", "_law_low", "_law_high", "_law_one", "_law_some"]
theorem sc_law_wrong : FnScope N_law_wrong ["_law_cell", "_law_low", "_law_high"] (defScope s_law_wrong) := ⟨rfl, rfl, rfl, by decide +kernel, rfl, by decide +kernel, by decide +kernel⟩
abbrev s_law_refused : Stmt := topS 32
abbrev nk_law_refused : List (Str × NameKind) := [("_law_text", .«local»), ("_law_low", .«local»), ("_law_high", .«local»), ("_law_at", .«local»), ("e", .«local»), ("read_field", .globalImplicit), ("FieldError", .globalImplicit), ("isinstance", .globalImplicit), ("NoField", .globalImplicit), ("ValueError", .globalImplicit), ("NoDay", .globalImplicit), ("NoMoment", .globalImplicit), ("NoRow", .globalImplicit), ("NoBook", .globalImplicit), ("NoClock", .globalImplicit), ("NoName", .globalImplicit), ("NoWord", .globalImplicit), ("_law_whole", .globalImplicit)]
abbrev N_law_refused : List Str := ["_law_text", "_law_low", "_law_high", "_law_at", "e"]
theorem sc_law_refused : FnScope N_law_refused ["_law_text", "_law_low", "_law_high", "_law_at"] (defScope s_law_refused) := ⟨rfl, rfl, rfl, by decide +kernel, rfl, by decide +kernel, by decide +kernel⟩
abbrev s_law_right : Stmt := topS 33
abbrev nk_law_right : List (Str × NameKind) := [("_law_script", .«local»), ("_law_low", .«local»), ("_law_high", .«local»), ("_law_mixed", .«local»), ("_law_texts", .«local»), ("_law_k", .«local»), ("_law_item_here", .«local»), ("range", .globalImplicit), ("max", .globalImplicit), ("min", .globalImplicit), ("len", .globalImplicit), ("_law_item", .globalImplicit), ("_law_digits", .globalImplicit), ("_law_cell_at", .globalImplicit)]
abbrev N_law_right : List Str := ["_law_script", "_law_low", "_law_high", "_law_mixed", "_law_texts", "_law_k", "_law_item_here"]
theorem sc_law_right : FnScope N_law_right ["_law_script", "_law_low", "_law_high", "_law_mixed"] (defScope s_law_right) := ⟨rfl, rfl, rfl, by decide +kernel, rfl, by decide +kernel, by decide +kernel⟩
abbrev s_law_spoilt : Stmt := topS 34
abbrev nk_law_spoilt : List (Str × NameKind) := [("_law_digits_here", .«local»), ("_law_texts", .«local»), ("_law_low", .«local»), ("_law_high", .«local»), ("_law_at", .«local»), ("_law_other", .«local»), ("list", .globalImplicit), ("len", .globalImplicit), ("_law_wrong", .globalImplicit), ("min", .globalImplicit)]
abbrev N_law_spoilt : List Str := ["_law_digits_here", "_law_texts", "_law_low", "_law_high", "_law_at", "_law_other"]
theorem sc_law_spoilt : FnScope N_law_spoilt ["_law_digits_here", "_law_texts", "_law_low", "_law_high"] (defScope s_law_spoilt) := ⟨rfl, rfl, rfl, by decide +kernel, rfl, by decide +kernel, by decide +kernel⟩
abbrev s_law_many : Stmt := topS 35
abbrev nk_law_many : List (Str × NameKind) := [("_law_digits_here", .cell), ("_law_low", .cell), ("_law_high", .cell), ("_law_many_here", .«local»), ("_law_texts", .«local»), ("_law_at", .«local»), ("range", .globalImplicit), ("_law_wrong", .globalImplicit), ("len", .globalImplicit), ("min", .globalImplicit)]
abbrev N_law_many : List Str := ["_law_digits_here", "_law_low", "_law_high", "_law_many_here", "_law_texts", "_law_at", "_law_k"]
theorem sc_law_many : FnScope N_law_many ["_law_digits_here", "_law_low", "_law_high"] (defScope s_law_many) := ⟨rfl, rfl, rfl, by decide +kernel, rfl, by decide +kernel, by decide +kernel⟩
abbrev s_law : Stmt := topS 36
abbrev nk_law : List (Str × NameKind) := [("_law_script", .«local»), ("_law_mixed", .«local»), ("_law_which", .«local»), ("_law_one", .«local»), ("_law_other", .«local»), ("_law_kind", .«local»), ("_law_low", .«local»), ("_law_high", .«local»), ("_law_texts", .«local»), ("_law_there", .«local»), ("_law_digits_here", .«local»), ("_law_text", .«local»), ("_law_at", .«local»), ("_law_forty", .«local»), ("_law_long", .«local»), ("_law_many_here", .«local»), ("_law_cell_at", .globalImplicit), ("_law_digits", .globalImplicit), ("_law_bounds", .globalImplicit), ("_law_right", .globalImplicit), ("read_field", .globalImplicit), ("_law_spoilt", .globalImplicit), ("_law_refused", .globalImplicit), ("_law_many", .globalImplicit), ("str", .globalImplicit)]
abbrev N_law : List Str := ["_law_script", "_law_mixed", "_law_which", "_law_one", "_law_other", "_law_kind", "_law_low", "_law_high", "_law_texts", "_law_there", "_law_digits_here", "_law_text", "_law_at", "_law_forty", "_law_long", "_law_many_here"]
theorem sc_law : FnScope N_law ["_law_script"] (defScope s_law) := ⟨rfl, rfl, rfl, by decide +kernel, rfl, by decide +kernel, by decide +kernel⟩
abbrev s_NoField_init : Stmt := (inClass (topS 4) 0)
theorem sc_NoField_init : FnScope ["self", "at"] ["self", "at"] (defScope s_NoField_init) := ⟨rfl, rfl, rfl, by decide +kernel, rfl, by decide +kernel, by decide +kernel⟩
def phi_law_whole : List D → Ro := fV fun d => match d with
  | .v (.int _) => .val (.bl true)
  | .v (.bl _) => .val (.bl false)
  | .v (.str _) => .val (.bl false)
  | .v .non => .val (.bl false)
  | .lst _ => .val (.bl false)
  | .tup _ => .val (.bl false)
  | _ => .bad
noncomputable def phi_mask_of : List D → Ro := fN fun l => .val (.int (maskOf l : Nat))
theorem mask_val {l : List Nat} (h : ∀ n ∈ l, n < 64) (hl : l.length ≤ 1000) : phi_mask_of [.lst (nl l)] = .val (.int (maskOf l : Nat)) := fN_val h hl
theorem ornat (m n : Nat) : (.v (.int (Builtin.bitOr (m : Int) (1 * 2 ^ ((n : Int).toNat)))) : D) = .int ((m ||| 2 ^ n : Nat) : Int) := by
  rw [shl_nat, or_nat]
theorem fold_nl (l : List Nat) : ∀ y : Nat, (nl l).foldl (fun y d => y ||| 2 ^ (toInt1 d).toNat) y = l.foldl (fun m n => m ||| 2 ^ n) y := by
  induction l with
  | nil => intro y; rfl
  | cons n l ih => intro y; exact ih _
def phi_only_figures : List D → Ro := fT fun l => .val (.bl (onlyF l))
def phi_number_in : List D → Ro := fTB fun l lo hi => .fr (nl (numN l lo hi))
theorem num_val {l : List Nat} {lo hi : Nat} (h : (lo ≤ hi ∧ hi ≤ 99) ∧ l.length ≤ 1000) : phi_number_in [.tx l, .int (lo : Nat), .int (hi : Nat)] = .fr (nl (numN l lo hi)) := fTB_val h
def phi_span_in : List D → Ro := fTB fun l lo hi => .fr (nl (spanN l lo hi))
theorem span_val {l : List Nat} {lo hi : Nat} (h : (lo ≤ hi ∧ hi ≤ 99) ∧ l.length ≤ 1000) : phi_span_in [.tx l, .int (lo : Nat), .int (hi : Nat)] = .fr (nl (spanN l lo hi)) := fTB_val h
def phi_item_mask : List D → Ro := fTB fun l lo hi => if hi < 64 then .val (.int (itemN l lo hi : Nat)) else .bad
theorem item_val {l : List Nat} {lo hi : Nat} (h : lo ≤ hi ∧ hi < 64) (hl : l.length ≤ 1000) : phi_item_mask [.tx l, .int (lo : Nat), .int (hi : Nat)] = .val (.int (itemN l lo hi : Nat)) := by
  rw [phi_item_mask, fTB_val ⟨by omega, hl⟩, if_pos h.2]
def listN (e : List Nat) : D := .lst (nl e)
theorem inD_nl (es : List (List Nat)) : InD (.lst []) (es.map listN) (es.any fun e => decide (e = [])) := by
  have h := inD_lists [] (es.map fun e => e.map fun n : Nat => (n : Int))
  rw [List.map_map, List.any_map] at h
  have e : (es.any ((fun x => decide (x = [])) ∘ fun e => e.map fun n : Nat => (n : Int))) = es.any fun e => decide (e = []) := by
    congr 1
    funext x
    show decide (x.map (fun n : Nat => (n : Int)) = []) = _
    rw [decide_eq_decide, List.map_eq_nil_iff]
  rw [e] at h
  exact h
theorem nl_head {e : List Nat} (h : e ≠ []) : atI (nl e) 0 = some (.int (e.headD 0 : Nat)) := by
  cases e with
  | nil => exact absurd rfl h
  | cons x r => exact atI_nat (j := 0) rfl
theorem any_ne {es : List (List Nat)} {e : List Nat} (h : (es.any fun e => decide (e = [])) = false) (he : e ∈ es) : e ≠ [] := fun q => by
  have : (es.any fun e => decide (e = [])) = true := List.any_eq_true.mpr ⟨e, he, by simpa using q⟩
  rw [this] at h
  cases h
theorem head_mem {α : Type} {es : List α} {d : α} (h : es ≠ []) : es.headD d ∈ es := by
  cases es with
  | nil => exact absurd rfl h
  | cons x r => simp
theorem last_mem {α : Type} {es : List α} {d : α} (h : es ≠ []) : es.getLastD d ∈ es := by
  cases es with
  | nil => exact absurd rfl h
  | cons x r =>
    rw [List.getLastD_cons]
    exact List.getLastD_mem_cons
theorem ix0 {l : List Nat} {a : Nat} : atI (nl (a :: l)) 0 = some (.int (a : Nat)) := atI_nat (j := 0) rfl
theorem ix1 {a b : Nat} : atI (nl [a, b]) 1 = some (.int (b : Nat)) := rfl
theorem ixh1 {hs : List (List Nat)} (h : 2 ≤ hs.length) : atI (txs hs) 1 = some (.tx (hs.getD 1 [])) := by
  match hs, h with
  | a :: b :: r, _ => exact atI_nat (j := 1) rfl
  | [], h => simp at h
  | [_], h => simp at h
theorem inv_readF {C : Addr} {ds : List D} (h : phi_readF C ds ≠ .bad) : (∃ (l : List Nat) (lo hi : Nat), ds = [.tx l, .int (lo : Nat), .int (hi : Nat)] ∧ (lo ≤ hi ∧ hi < 64) ∧ l.length ≤ 1000) ∨ ∃ (d : D) (lo hi : Nat), ds = [d, .int (lo : Nat), .int (hi : Nat)] ∧ (lo ≤ hi ∧ hi < 64) ∧ notTx d = true := by
  unfold phi_readF at h
  split at h
  · rename_i d lo hi
    have h1 := if_ok h
    rw [if_pos h1] at h
    have e1 : ((lo.toNat : Nat) : Int) = lo := by omega
    have e2 : ((hi.toNat : Nat) : Int) = hi := by omega
    split at h
    · rename_i z
      have h2 := if_ok h
      exact .inl ⟨z.cps.toList, lo.toNat, hi.toNat, by rw [e1, e2, D.tx, ← ofTx], by omega, h2⟩
    · have h2 := if_ok h
      exact .inr ⟨d, lo.toNat, hi.toNat, by rw [e1, e2], by omega, h2⟩
  · exact absurd rfl h
theorem b8 {l : List Int} {s1 s2 s3 s4 s5 s6 s7 s8 : Int} (h : Bnd l [s1, s2, s3, s4, s5, s6, s7, s8]) : ∃ a b c d e f g i, l = [a, b, c, d, e, f, g, i] ∧ (0 ≤ a ∧ a < s1) ∧ (0 ≤ b ∧ b < s2) ∧ (0 ≤ c ∧ c < s3) ∧ (0 ≤ d ∧ d < s4) ∧ (0 ≤ e ∧ e < s5) ∧ (0 ≤ f ∧ f < s6) ∧ (0 ≤ g ∧ g < s7) ∧ 0 ≤ i ∧ i < s8 := by
  obtain ⟨a, r, rfl, h1, h⟩ := h.inv
  obtain ⟨b, c, d, e, f, g, i, rfl, h2⟩ := b7 h
  exact ⟨_, _, _, _, _, _, _, _, rfl, h1, h2⟩
def boundL (w o t : Nat) : Nat × Nat := if w < 6 then ([(0, 59), (0, 23), (1, 31), (1, 12), (0, 7), (0, 63)] : List (Nat × Nat)).getD w (0, 0) else (o, o + t % (64 - o))
def phi_law_bounds : List D → Ro := fIII fun w o t => if 0 ≤ w ∧ (0 ≤ o ∧ o < 64) ∧ 0 ≤ t then .val (.tup [.int ((boundL w.toNat o.toNat t.toNat).1 : Nat), .int ((boundL w.toNat o.toNat t.toNat).2 : Nat)]) else .bad
theorem bounds_val {w o t : Nat} (h : o < 64) : phi_law_bounds [.int (w : Nat), .int (o : Nat), .int (t : Nat)] = .val (.tup [.int ((boundL w o t).1 : Nat), .int ((boundL w o t).2 : Nat)]) := if_pos (by omega)
theorem bound_ok {w o t : Nat} (h : o < 64) : (boundL w o t).1 ≤ (boundL w o t).2 ∧ (boundL w o t).2 < 64 := by
  unfold boundL
  split
  · rename_i q
    have : w = 0 ∨ w = 1 ∨ w = 2 ∨ w = 3 ∨ w = 4 ∨ w = 5 := by omega
    rcases this with rfl | rfl | rfl | rfl | rfl | rfl <;> decide
  · have := Nat.mod_lt t (show 0 < 64 - o by omega)
    refine ⟨Nat.le_add_right _ _, ?_⟩
    show o + t % (64 - o) < 64
    omega
theorem mdN {a b o : Nat} (h : a ≤ b) : (a : Int) + (o : Int) % ((b : Int) - (a : Int) + 1) = ((a + o % (b - a + 1) : Nat) : Int) := by
  rw [show (b : Int) - (a : Int) + 1 = ((b - a + 1 : Nat) : Int) by omega]
  push_cast
  rfl
theorem pick3 {f : Nat} (h : f < 3) : atI [D.int 4, .int 12, .int 99] (f : Int) = some (.int (([4, 12, 99] : List Nat).getD f 1 : Nat)) := by
  have : f = 0 ∨ f = 1 ∨ f = 2 := by omega
  rcases this with rfl | rfl | rfl <;> rfl
theorem far_ok {f : Nat} (h : f < 3) : (0 : Int) < (([4, 12, 99] : List Nat).getD f 1 : Nat) := by
  have : f = 0 ∨ f = 1 ∨ f = 2 := by omega
  rcases this with rfl | rfl | rfl <;> decide
def iA (o lo hi : Nat) : Nat := lo + o % (hi - lo + 1)
def iB (w t a hi : Nat) : Nat := if w = 1 then a else a + t % (hi - a + 1)
def iS (f s : Nat) : Nat := 1 + s % ([4, 12, 99] : List Nat).getD f 1
theorem iA_ok {o lo hi : Nat} (h : lo ≤ hi) : lo ≤ iA o lo hi ∧ iA o lo hi ≤ hi := by
  have := Nat.mod_lt o (show 0 < hi - lo + 1 by omega)
  unfold iA
  omega
theorem iB_ok {w t a hi : Nat} (h : a ≤ hi) : a ≤ iB w t a hi ∧ iB w t a hi ≤ hi := by
  have := Nat.mod_lt t (show 0 < hi - a + 1 by omega)
  unfold iB
  split <;> omega
theorem iS_ok {f s : Nat} (h : f < 3) : 0 < iS f s ∧ iS f s < 100 := by
  have : f = 0 ∨ f = 1 ∨ f = 2 := by omega
  unfold iS
  rcases this with rfl | rfl | rfl <;> (simp only [List.getD_cons_zero, List.getD_cons_succ]; omega)
/-- a drawn item: its text, the first and the last number, the step -/
def itTx (w o t f s lo hi : Nat) : List Nat := formT w (iA o lo hi) (iB w t (iA o lo hi) hi) (iS f s)
def itA (w o lo hi : Nat) : Nat := formA w (iA o lo hi) lo
def itB (w o t lo hi : Nat) : Nat := formB w (iB w t (iA o lo hi) hi) hi
def itS (w f s : Nat) : Nat := formS w (iS f s)
def itemD (w o t f s lo hi : Nat) : D := .tup [.tx (itTx w o t f s lo hi), .int (itA w o lo hi : Nat), .int (itB w o t lo hi : Nat), .int (itS w f s : Nat)]
theorem it_ok {w o t f s lo hi : Nat} (hw : w < 6) (hf : f < 3) (h : lo ≤ hi ∧ hi < 64) : itemN (itTx w o t f s lo hi) lo hi = maskOf (toldN (itA w o lo hi) (itB w o t lo hi) (itS w f s)) := by
  have h1 := iA_ok (o := o) h.1
  have h2 := iB_ok (w := w) (t := t) h1.2
  have h3 := iS_ok (s := s) hf
  exact item_form hw h1.1 h2.1 h2.2 (by omega) h3.1 h3.2 (fun e => by unfold iB; rw [if_pos e])
theorem it_bd {w o t f s lo hi : Nat} (hw : w < 6) (hf : f < 3) (h : lo ≤ hi ∧ hi < 64) : lo ≤ itA w o lo hi ∧ itA w o lo hi ≤ itB w o t lo hi ∧ itB w o t lo hi ≤ hi ∧ 0 < itS w f s := by
  have h1 := iA_ok (o := o) h.1
  have h2 := iB_ok (w := w) (t := t) h1.2
  have h3 := iS_ok (s := s) hf
  unfold itA itB itS formA formB formS
  repeat' split
  all_goals omega
theorem it_len {w o t f s lo hi : Nat} (hf : f < 3) (h : lo ≤ hi ∧ hi < 64) : (itTx w o t f s lo hi).length ≤ 8 := by
  have h1 := iA_ok (o := o) h.1
  have h2 := iB_ok (w := w) (t := t) h1.2
  have h3 := iS_ok (s := s) hf
  exact form_len (by omega) (by omega) h3.2
theorem it_free {w o t f s lo hi : Nat} : 44 ∉ itTx w o t f s lo hi := form_free (.inl (by decide)) (by decide) (by decide) (by decide)
theorem it_ne {w o t f s lo hi : Nat} (hw : w < 6) (hf : f < 3) (h : lo ≤ hi ∧ hi < 64) : itemN (itTx w o t f s lo hi) lo hi ≠ 0 := by
  rw [it_ok hw hf h]
  exact told_ne (it_bd (f := f) (s := s) hw hf h).2.1
def phi_law_item : List D → Ro
  | [.lst [.v (.int w), .v (.int o), .v (.int t), .v (.int f), .v (.int s)], .v (.int lo), .v (.int hi)] => if (0 ≤ w ∧ w < 6) ∧ 0 ≤ o ∧ 0 ≤ t ∧ (0 ≤ f ∧ f < 3) ∧ 0 ≤ s ∧ 0 ≤ lo ∧ lo ≤ hi ∧ hi < 64 then .val (itemD w.toNat o.toNat t.toNat f.toNat s.toNat lo.toNat hi.toNat) else .bad
  | _ => .bad
theorem drawn_item {w o t f s lo hi : Nat} (hw : w < 6) (hf : f < 3) (h : lo ≤ hi ∧ hi < 64) : phi_law_item [.lst [.int (w : Nat), .int (o : Nat), .int (t : Nat), .int (f : Nat), .int (s : Nat)], .int (lo : Nat), .int (hi : Nat)] = .val (itemD w o t f s lo hi) := if_pos (by omega)
theorem kit_self {K : PySem.W.Frag} {C : Addr} : PySem.W.kitOne K (.ref C) (.ref C) = some true := by simp [PySem.W.kitOne]
theorem boot_ValueError : bootBuiltins "ValueError" = some (.type "ValueError") := by decide +kernel

theorem b4n {l : List Int} {s1 s2 s3 s4 : Int} (h : Bnd l [s1, s2, s3, s4]) : ∃ a b c d : Nat, l = [(a : Int), b, c, d] ∧ (a : Int) < s1 ∧ (b : Int) < s2 ∧ (c : Int) < s3 ∧ (d : Int) < s4 := by
  obtain ⟨a, b, c, d, rfl, h1, h2, h3, h4⟩ := b4 h
  exact ⟨a.toNat, b.toNat, c.toNat, d.toNat, by rw [Int.toNat_of_nonneg h1.1, Int.toNat_of_nonneg h2.1, Int.toNat_of_nonneg h3.1, Int.toNat_of_nonneg h4.1], by omega, by omega, by omega, by omega⟩
theorem b5n {l : List Int} {s1 s2 s3 s4 s5 : Int} (h : Bnd l [s1, s2, s3, s4, s5]) : ∃ a b c d e : Nat, l = [(a : Int), b, c, d, e] ∧ (a : Int) < s1 ∧ (b : Int) < s2 ∧ (c : Int) < s3 ∧ (d : Int) < s4 ∧ (e : Int) < s5 := by
  obtain ⟨a, b, c, d, e, rfl, h1, h2, h3, h4, h5⟩ := b5 h
  exact ⟨a.toNat, b.toNat, c.toNat, d.toNat, e.toNat, by rw [Int.toNat_of_nonneg h1.1, Int.toNat_of_nonneg h2.1, Int.toNat_of_nonneg h3.1, Int.toNat_of_nonneg h4.1, Int.toNat_of_nonneg h5.1], by omega, by omega, by omega, by omega, by omega⟩
theorem b6n {l : List Int} {s1 s2 s3 s4 s5 s6 : Int} (h : Bnd l [s1, s2, s3, s4, s5, s6]) : ∃ a b c d e f : Nat, l = [(a : Int), b, c, d, e, f] ∧ (a : Int) < s1 ∧ (b : Int) < s2 ∧ (c : Int) < s3 ∧ (d : Int) < s4 ∧ (e : Int) < s5 ∧ (f : Int) < s6 := by
  obtain ⟨a, b, c, d, e, f, rfl, h1, h2, h3, h4, h5, h6⟩ := b6 h
  exact ⟨a.toNat, b.toNat, c.toNat, d.toNat, e.toNat, f.toNat, by rw [Int.toNat_of_nonneg h1.1, Int.toNat_of_nonneg h2.1, Int.toNat_of_nonneg h3.1, Int.toNat_of_nonneg h4.1, Int.toNat_of_nonneg h5.1, Int.toNat_of_nonneg h6.1], by omega, by omega, by omega, by omega, by omega, by omega⟩
/-- right items -/
structure Its (lo hi : Nat) (k : Nat) (ts : List (List Nat)) : Prop where
  free : ∀ t ∈ ts, 44 ∉ t ∧ itemN t lo hi ≠ 0 ∧ t.length ≤ 8
  len : (TL.joinL [44] ts).length ≤ 300
  num : ts.length ≤ k
theorem Its.sum {lo hi k : Nat} {ts : List (List Nat)} (h : Its lo hi k ts) : (ts.map (·.length)).sum ≤ 8 * ts.length := sum_le fun t ht => (h.free t ht).2.2
theorem Its.good {lo hi k : Nat} {ts : List (List Nat)} (h : Its lo hi k ts) (hk : k ≤ 40) (ne : ts ≠ []) : goodF (TL.joinL [44] ts) lo hi := good_join ne (fun t ht => (h.free t ht).1) h.len (by have := h.num; omega) fun t ht => (h.free t ht).2.1
def itOf (b : Bool) (c : Int) (lo hi : Nat) : List Nat := match digV b c [6, 64, 64, 3, 99] with
  | [a3, a4, a5, a6, a7] => itTx a3.toNat a4.toNat a5.toNat a6.toNat a7.toNat lo hi
  | _ => []
theorem itOf_ok {b : Bool} {c : Int} {lo hi : Nat} (h : lo ≤ hi ∧ hi < 64) : ∃ a3 a4 a5 a6 a7 : Nat, digV b c [6, 64, 64, 3, 99] = [(a3 : Int), a4, a5, a6, a7] ∧ a3 < 6 ∧ a6 < 3 ∧ itOf b c lo hi = itTx a3 a4 a5 a6 a7 lo hi := by
  obtain ⟨a3, a4, a5, a6, a7, e, h3, h4, h5, h6, h7⟩ := b5n (digV_ok b c [6, 64, 64, 3, 99] (by decide))
  refine ⟨a3, a4, a5, a6, a7, e, by omega, by omega, ?_⟩
  unfold itOf
  rw [e]
  rfl
theorem itOf_free {b : Bool} {c : Int} {lo hi : Nat} (h : lo ≤ hi ∧ hi < 64) : 44 ∉ itOf b c lo hi ∧ itemN (itOf b c lo hi) lo hi ≠ 0 ∧ (itOf b c lo hi).length ≤ 8 := by
  obtain ⟨a3, a4, a5, a6, a7, _, h3, h6, e⟩ := itOf_ok (b := b) (c := c) h
  rw [e]
  exact ⟨it_free, it_ne h3 h6 h, it_len h6 h⟩
def rightStep (ns : List Int) (b : Bool) (lo hi : Nat) (ts : List (List Nat)) (x : Nat) : List (List Nat) := if (TL.joinL [44] (ts ++ [itOf b (cell ns (4 + (x : Int))) lo hi])).length ≤ 300 then ts ++ [itOf b (cell ns (4 + (x : Int))) lo hi] else ts
def rightN (n : Nat) : Nat := (max 5 (min 44 (n : Int)) - 4).toNat
def rightT (ns : List Int) (b : Bool) (lo hi : Nat) : List (List Nat) := (List.range (rightN ns.length)).foldl (rightStep ns b lo hi) []
theorem rightN_le (n : Nat) : 1 ≤ rightN n ∧ rightN n ≤ 40 := by
  unfold rightN
  omega
theorem step_its {ns : List Int} {b : Bool} {lo hi k x : Nat} {ts : List (List Nat)} (hl : lo ≤ hi ∧ hi < 64) (h : Its lo hi k ts) : Its lo hi (k + 1) (rightStep ns b lo hi ts x) := by
  unfold rightStep
  split
  · rename_i q
    refine ⟨fun t ht => ?_, q, by rw [List.length_append, List.length_singleton]; have := h.num; omega⟩
    rcases List.mem_append.mp ht with ht | ht
    · exact h.free t ht
    · rw [List.mem_singleton] at ht
      subst ht
      exact itOf_free hl
  · exact ⟨h.free, h.len, by have := h.num; omega⟩
theorem fold_its {ns : List Int} {b : Bool} {lo hi : Nat} (hl : lo ≤ hi ∧ hi < 64) : ∀ (xs : List Nat) (k : Nat) (ts : List (List Nat)), Its lo hi k ts → Its lo hi (k + xs.length) (xs.foldl (rightStep ns b lo hi) ts)
  | [], k, ts, h => h
  | x :: xs, k, ts, h => by
    rw [List.foldl_cons, List.length_cons, show k + (xs.length + 1) = k + 1 + xs.length by omega]
    exact fold_its hl xs (k + 1) _ (step_its hl h)
theorem step_ne {ns : List Int} {b : Bool} {lo hi x : Nat} {ts : List (List Nat)} (h : ts ≠ []) : rightStep ns b lo hi ts x ≠ [] := by
  unfold rightStep
  split
  · simp
  · exact h
theorem fold_ne {ns : List Int} {b : Bool} {lo hi : Nat} : ∀ (xs : List Nat) (ts : List (List Nat)), ts ≠ [] → xs.foldl (rightStep ns b lo hi) ts ≠ []
  | [], ts, h => h
  | x :: xs, ts, h => fold_ne xs _ (step_ne h)
theorem right_its {ns : List Int} {b : Bool} {lo hi : Nat} (hl : lo ≤ hi ∧ hi < 64) : Its lo hi 40 (rightT ns b lo hi) := by
  have h := fold_its (ns := ns) (b := b) hl (List.range (rightN ns.length)) 0 [] ⟨by simp, by decide, by simp⟩
  refine ⟨h.free, h.len, ?_⟩
  have h1 := h.num
  have h2 := rightN_le ns.length
  rw [List.length_range] at h1
  have : (rightT ns b lo hi).length ≤ 0 + rightN ns.length := h1
  omega
theorem right_ne {ns : List Int} {b : Bool} {lo hi : Nat} (hl : lo ≤ hi ∧ hi < 64) : rightT ns b lo hi ≠ [] := by
  unfold rightT
  obtain ⟨m, e⟩ : ∃ m, rightN ns.length = m + 1 := ⟨rightN ns.length - 1, by have := rightN_le ns.length; omega⟩
  rw [e, List.range_succ_eq_map, List.foldl_cons]
  refine fold_ne _ _ ?_
  unfold rightStep
  have hf := itOf_free (b := b) (c := cell ns (4 + ((0 : Nat) : Int))) hl
  rw [if_pos (by
    show (TL.joinL [44] [itOf b (cell ns (4 + ((0 : Nat) : Int))) lo hi]).length ≤ 300
    show (itOf b (cell ns (4 + ((0 : Nat) : Int))) lo hi).length ≤ 300
    omega)]
  simp
open Classical in
noncomputable def phi_law_right : List D → Ro
  | [.lst l, .v (.int lo), .v (.int hi), .v (.bl b)] => if l = (l.map toInt1).map D.int ∧ l.length ≤ 63 ∧ 0 ≤ lo ∧ lo ≤ hi ∧ hi < 64 then .fr (txs (rightT (l.map toInt1) b lo.toNat hi.toNat)) else .bad
  | _ => .bad
theorem right_val {ns : List Int} {b : Bool} {lo hi : Nat} (hn : ns.length ≤ 63) (h : lo ≤ hi ∧ hi < 64) : phi_law_right [.lst (ns.map D.int), .int (lo : Nat), .int (hi : Nat), .bl b] = .fr (txs (rightT ns b lo hi)) := by
  unfold phi_law_right
  simp only [toInts_map, List.length_map]
  rw [if_pos ⟨trivial, hn, by omega, by omega, by omega⟩, Int.toNat_natCast, Int.toNat_natCast]
open Classical in
noncomputable def phi_law_refused (C : Addr) : List D → Ro
  | [d, .v (.int lo), .v (.int hi), .v (.int a)] => if phi_readF C [d, .int lo, .int hi] = .exc C ["at"] [.int a] then .val (.bl true) else .bad
  | _ => .bad
theorem refused_val {C : Addr} {d : D} {lo hi a : Int} (h : phi_readF C [d, .int lo, .int hi] = .exc C ["at"] [.int a]) : phi_law_refused C [d, .int lo, .int hi, .int a] = .val (.bl true) := if_pos h
def wrongT (c lo hi : Nat) : List Nat := (wrongL lo hi).getD (c % (wrongL lo hi).length) []
theorem wrongL_len (lo hi : Nat) : (wrongL lo hi).length = if lo < hi then 46 else 45 := by
  unfold wrongL gB3
  split <;> rfl
theorem wrongT_mem (c lo hi : Nat) : wrongT c lo hi ∈ wrongL lo hi := by
  unfold wrongT
  have h : c % (wrongL lo hi).length < (wrongL lo hi).length := Nat.mod_lt _ (by rw [wrongL_len]; split <;> decide)
  rw [List.getD_eq_getElem?_getD, List.getElem?_eq_getElem h]
  exact List.getElem_mem h
def phi_law_wrong : List D → Ro := fIII fun c lo hi => if 0 ≤ c ∧ 0 ≤ lo ∧ lo ≤ hi ∧ hi < 64 then .val (.tx (wrongT c.toNat lo.toNat hi.toNat)) else .bad
theorem wrong_val {c lo hi : Nat} (h : lo ≤ hi ∧ hi < 64) : phi_law_wrong [.int (c : Nat), .int (lo : Nat), .int (hi : Nat)] = .val (.tx (wrongT c lo hi)) := if_pos (by omega)
/-- a list with a wrong one put in -/
theorem set_free {ts : List (List Nat)} {m : Nat} {i : Nat} {w : List Nat} (h : ∀ t ∈ ts, 44 ∉ t ∧ t.length ≤ m) (hw : 44 ∉ w ∧ w.length ≤ m) : ∀ t ∈ ts.set i w, 44 ∉ t ∧ t.length ≤ m := fun t ht => by
  rcases List.mem_or_eq_of_mem_set ht with ht | rfl
  · exact h t ht
  · exact hw
def spoilL (d0 d1 d2 d3 d4 : Nat) (ts : List (List Nat)) (lo hi : Nat) : List (List Nat) := if d2 = 1 then (ts.set (d0 % ts.length) (wrongT d1 lo hi)).set (d3 % ts.length) (wrongT d4 lo hi) else ts.set (d0 % ts.length) (wrongT d1 lo hi)
def spoilA (d0 d2 d3 : Nat) (n : Nat) : Nat := if d2 = 1 then min (d0 % n) (d3 % n) else d0 % n
theorem spoil_at {d0 d1 d2 d3 d4 lo hi : Nat} {ts : List (List Nat)} (hl : lo ≤ hi ∧ hi < 64) (ht : ∀ t ∈ ts, itemN t lo hi ≠ 0) (ne : ts ≠ []) (h40 : ts.length ≤ 40) : badAt (spoilL d0 d1 d2 d3 d4 ts lo hi) lo hi = some (spoilA d0 d2 d3 ts.length) := by
  have hp : 0 < ts.length := List.length_pos_iff.mpr ne
  have z0 := Nat.mod_lt d0 hp
  have z3 := Nat.mod_lt d3 hp
  have w1 := (wrong_ok hl (wrongT_mem d1 lo hi)).1
  have w4 := (wrong_ok hl (wrongT_mem d4 lo hi)).1
  have hg : ∀ j y, ts[j]? = some y → itemN y lo hi ≠ 0 := fun j y hy => ht y (List.mem_of_getElem? hy)
  unfold spoilL spoilA
  generalize d0 % ts.length = a at *
  generalize d3 % ts.length = b at *
  split
  · by_cases hab : a < b
    · rw [Nat.min_eq_left (by omega)]
      refine badAt_at (x := wrongT d1 lo hi) (by omega) ?_ w1 fun j y hj hy => hg j y ?_
      · rw [List.getElem?_set_ne (by omega), List.getElem?_set_self z0]
      · rwa [List.getElem?_set_ne (by omega), List.getElem?_set_ne (by omega)] at hy
    · rw [Nat.min_eq_right (by omega)]
      refine badAt_at (x := wrongT d4 lo hi) (by omega) ?_ w4 fun j y hj hy => hg j y ?_
      · rw [List.getElem?_set_self (by rw [List.length_set]; exact z3)]
      · rwa [List.getElem?_set_ne (by omega), List.getElem?_set_ne (by omega)] at hy
  · refine badAt_at (x := wrongT d1 lo hi) (by omega) (List.getElem?_set_self z0) w1 fun j y hj hy => hg j y ?_
    rwa [List.getElem?_set_ne (by omega)] at hy
theorem spoil_free {d0 d1 d2 d3 d4 lo hi : Nat} {ts : List (List Nat)} (hl : lo ≤ hi ∧ hi < 64) (ht : ∀ t ∈ ts, 44 ∉ t ∧ t.length ≤ 60) : ∀ t ∈ spoilL d0 d1 d2 d3 d4 ts lo hi, 44 ∉ t ∧ t.length ≤ 60 := by
  have w1 := wrong_ok hl (wrongT_mem d1 lo hi)
  have w4 := wrong_ok hl (wrongT_mem d4 lo hi)
  unfold spoilL
  split
  · exact set_free (set_free ht w1.2) w4.2
  · exact set_free ht w1.2
theorem spoil_len {d0 d1 d2 d3 d4 lo hi : Nat} {ts : List (List Nat)} : (spoilL d0 d1 d2 d3 d4 ts lo hi).length = ts.length := by
  unfold spoilL
  split <;> simp
theorem sum_set : ∀ (l : List (List Nat)) (i : Nat) (w : List Nat), ((l.set i w).map (·.length)).sum ≤ (l.map (·.length)).sum + w.length
  | [], i, w => by simp
  | a :: l, 0, w => by
    simp only [List.set_cons_zero, List.map_cons, List.sum_cons]
    omega
  | a :: l, i + 1, w => by
    have := sum_set l i w
    simp only [List.set_cons_succ, List.map_cons, List.sum_cons]
    omega
theorem spoil_join {d0 d1 d2 d3 d4 lo hi : Nat} {ts : List (List Nat)} (hl : lo ≤ hi ∧ hi < 64) (ne : ts ≠ []) (h : (TL.joinL [44] ts).length ≤ 300) : (TL.joinL [44] (spoilL d0 d1 d2 d3 d4 ts lo hi)).length ≤ 420 := by
  have w1 := (wrong_ok hl (wrongT_mem d1 lo hi)).2.2
  have w4 := (wrong_ok hl (wrongT_mem d4 lo hi)).2.2
  have hlen := spoil_len (d0 := d0) (d1 := d1) (d2 := d2) (d3 := d3) (d4 := d4) (lo := lo) (hi := hi) (ts := ts)
  have hp : 0 < ts.length := List.length_pos_iff.mpr ne
  have e1 := joinL_len 44 ne
  have e2 := joinL_len 44 (ts := spoilL d0 d1 d2 d3 d4 ts lo hi) (List.length_pos_iff.mp (by omega))
  rw [hlen] at e2
  have s : ((spoilL d0 d1 d2 d3 d4 ts lo hi).map (·.length)).sum ≤ (ts.map (·.length)).sum + 120 := by
    unfold spoilL
    split
    · have z1 := sum_set (ts.set (d0 % ts.length) (wrongT d1 lo hi)) (d3 % ts.length) (wrongT d4 lo hi)
      have z2 := sum_set ts (d0 % ts.length) (wrongT d1 lo hi)
      omega
    · have z2 := sum_set ts (d0 % ts.length) (wrongT d1 lo hi)
      omega
  omega
/-- the place due -/
def dueA (l : List Nat) (a : Nat) : Nat := if 300 < l.length then 0 else a
theorem due_refused {C : Addr} {ts : List (List Nat)} {lo hi a : Nat} (hl : lo ≤ hi ∧ hi < 64) (ne : ts ≠ []) (hf : ∀ t ∈ ts, 44 ∉ t) (hq : (TL.joinL [44] ts).length ≤ 1000) (hb : badAt ts lo hi = some a) : phi_readF C [.tx (TL.joinL [44] ts), .int (lo : Nat), .int (hi : Nat)] = .exc C ["at"] [.int (dueA (TL.joinL [44] ts) a : Nat)] := by
  rw [readF_tx hl hq]
  unfold dueA
  split
  · rename_i h
    exact fieldR_long h
  · exact fieldR_bad (by omega) (by rw [items_join ne hf]; exact hb)
def toTxs (l : List D) : List (List Nat) := l.map fun d => match d with
  | .v (.str z) => z.cps.toList
  | _ => []
theorem toTxs_txs (ts : List (List Nat)) : toTxs (txs ts) = ts := by
  unfold toTxs txs
  rw [List.map_map]
  exact List.map_id'' (fun t => by simp) ts
open Classical in
noncomputable def phi_law_spoilt : List D → Ro
  | [.lst [.v (.int d0), .v (.int d1), .v (.int d2), .v (.int d3), .v (.int d4)], .lst l, .v (.int lo), .v (.int hi)] => if l = txs (toTxs l) ∧ Its lo.toNat hi.toNat 40 (toTxs l) ∧ toTxs l ≠ [] ∧ (0 ≤ d0 ∧ 0 ≤ d1 ∧ 0 ≤ d2 ∧ 0 ≤ d3 ∧ 0 ≤ d4) ∧ 0 ≤ lo ∧ lo ≤ hi ∧ hi < 64 then
      .val (.tup [.tx (TL.joinL [44] (spoilL d0.toNat d1.toNat d2.toNat d3.toNat d4.toNat (toTxs l) lo.toNat hi.toNat)), .int (dueA (TL.joinL [44] (spoilL d0.toNat d1.toNat d2.toNat d3.toNat d4.toNat (toTxs l) lo.toNat hi.toNat)) (spoilA d0.toNat d2.toNat d3.toNat (toTxs l).length) : Nat)]) else .bad
  | _ => .bad
theorem spoilt_val {d0 d1 d2 d3 d4 lo hi : Nat} {ts : List (List Nat)} (h : Its lo hi 40 ts) (ne : ts ≠ []) (hl : lo ≤ hi ∧ hi < 64) : phi_law_spoilt [.lst [.int (d0 : Nat), .int (d1 : Nat), .int (d2 : Nat), .int (d3 : Nat), .int (d4 : Nat)], .lst (txs ts), .int (lo : Nat), .int (hi : Nat)] =
    .val (.tup [.tx (TL.joinL [44] (spoilL d0 d1 d2 d3 d4 ts lo hi)), .int (dueA (TL.joinL [44] (spoilL d0 d1 d2 d3 d4 ts lo hi)) (spoilA d0 d2 d3 ts.length) : Nat)]) := by
  unfold phi_law_spoilt
  simp only [Int.toNat_natCast]
  rw [if_pos ⟨by rw [toTxs_txs], by rw [toTxs_txs]; exact h, by rw [toTxs_txs]; exact ne, by omega, by omega⟩, toTxs_txs]
open Classical in
theorem spoilt_inv {ds : List D} (hb : phi_law_spoilt ds ≠ .bad) : ∃ (d0 d1 d2 d3 d4 lo hi : Nat) (ts : List (List Nat)), ds = [.lst [.int (d0 : Nat), .int (d1 : Nat), .int (d2 : Nat), .int (d3 : Nat), .int (d4 : Nat)], .lst (txs ts), .int (lo : Nat), .int (hi : Nat)] ∧ Its lo hi 40 ts ∧ ts ≠ [] ∧ lo ≤ hi ∧ hi < 64 := by
  unfold phi_law_spoilt at hb
  split at hb
  · rename_i d0 d1 d2 d3 d4 l lo hi
    obtain ⟨h1, h2, h3, h4, h5⟩ := if_ok hb
    refine ⟨d0.toNat, d1.toNat, d2.toNat, d3.toNat, d4.toNat, lo.toNat, hi.toNat, toTxs l, ?_, h2, h3, by omega, by omega⟩
    rw [← h1, Int.toNat_of_nonneg h4.1, Int.toNat_of_nonneg h4.2.1, Int.toNat_of_nonneg h4.2.2.1, Int.toNat_of_nonneg h4.2.2.2.1, Int.toNat_of_nonneg h4.2.2.2.2, Int.toNat_of_nonneg h5.1, Int.toNat_of_nonneg (by omega)]
  · exact absurd rfl hb
/-- many right items, or one of them wrong -/
def manyT (d0 d1 d2 lo hi : Nat) : List (List Nat) := (List.range (41 + d0)).map fun k => numL (lo + (d1 + k * d2) % (hi - lo + 1))
def manyP (d0 d3 d4 : Nat) : Nat := if d3 = 1 then 40 + d4 % (1 + d0) else d4
def manyL (d0 d1 d2 d3 d4 d5 lo hi : Nat) : List (List Nat) := if d3 = 0 then manyT d0 d1 d2 lo hi else (manyT d0 d1 d2 lo hi).set (manyP d0 d3 d4) (wrongT d5 lo hi)
def manyA (d0 d3 d4 : Nat) : Nat := if d3 = 0 then 40 else min (manyP d0 d3 d4) 40
theorem manyT_ok {d0 d1 d2 lo hi : Nat} (hl : lo ≤ hi ∧ hi < 64) : ∀ t ∈ manyT d0 d1 d2 lo hi, 44 ∉ t ∧ itemN t lo hi ≠ 0 ∧ t.length ≤ 2 := fun t ht => by
  obtain ⟨k, _, rfl⟩ := List.mem_map.mp ht
  have h := Nat.mod_lt (d1 + k * d2) (show 0 < hi - lo + 1 by omega)
  generalize (d1 + k * d2) % (hi - lo + 1) = z at h
  refine ⟨numL_free (.inl (by decide)), ?_, num2 (by omega)⟩
  rw [item_one (free47 _) (span_num (by omega) (Nat.le_add_right _ _) (by omega))]
  exact told_ne (Nat.le_refl _)
theorem manyT_len (d0 d1 d2 lo hi : Nat) : (manyT d0 d1 d2 lo hi).length = 41 + d0 := by
  unfold manyT
  rw [List.length_map, List.length_range]
theorem manyL_len (d0 d1 d2 d3 d4 d5 lo hi : Nat) : (manyL d0 d1 d2 d3 d4 d5 lo hi).length = 41 + d0 := by
  unfold manyL
  split
  · exact manyT_len ..
  · rw [List.length_set, manyT_len]
theorem manyL_free {d0 d1 d2 d3 d4 d5 lo hi : Nat} (hl : lo ≤ hi ∧ hi < 64) : ∀ t ∈ manyL d0 d1 d2 d3 d4 d5 lo hi, 44 ∉ t ∧ t.length ≤ 60 := by
  have h : ∀ t ∈ manyT d0 d1 d2 lo hi, 44 ∉ t ∧ t.length ≤ 60 := fun t ht => by
    have := manyT_ok hl t ht
    exact ⟨this.1, by omega⟩
  unfold manyL
  split
  · exact h
  · exact set_free h (wrong_ok hl (wrongT_mem d5 lo hi)).2
theorem manyL_join {d0 d1 d2 d3 d4 d5 lo hi : Nat} (hl : lo ≤ hi ∧ hi < 64) (h0 : d0 < 12) : (TL.joinL [44] (manyL d0 d1 d2 d3 d4 d5 lo hi)).length ≤ 300 := by
  have hlen := manyL_len d0 d1 d2 d3 d4 d5 lo hi
  have e2 := joinL_len 44 (ts := manyL d0 d1 d2 d3 d4 d5 lo hi) (List.length_pos_iff.mp (by omega))
  have w5 := (wrong_ok hl (wrongT_mem d5 lo hi)).2.2
  have s0 : ((manyT d0 d1 d2 lo hi).map (·.length)).sum ≤ 2 * (manyT d0 d1 d2 lo hi).length := sum_le fun t ht => (manyT_ok hl t ht).2.2
  rw [manyT_len] at s0
  have s : ((manyL d0 d1 d2 d3 d4 d5 lo hi).map (·.length)).sum ≤ 2 * (41 + d0) + 60 := by
    unfold manyL
    split
    · omega
    · have z2 := sum_set (manyT d0 d1 d2 lo hi) (manyP d0 d3 d4) (wrongT d5 lo hi)
      omega
  omega
theorem manyP_lt {d0 d3 d4 : Nat} (h4 : d4 < 40) : manyP d0 d3 d4 < 41 + d0 := by
  have := Nat.mod_lt d4 (show 0 < 1 + d0 by omega)
  unfold manyP
  split <;> omega
theorem many_refused {C : Addr} {d0 d1 d2 d3 d4 d5 lo hi : Nat} (hl : lo ≤ hi ∧ hi < 64) (h0 : d0 < 12) (h4 : d4 < 40) : phi_readF C [.tx (TL.joinL [44] (manyL d0 d1 d2 d3 d4 d5 lo hi)), .int (lo : Nat), .int (hi : Nat)] = .exc C ["at"] [.int (manyA d0 d3 d4 : Nat)] := by
  have hj := manyL_join (d1 := d1) (d2 := d2) (d3 := d3) (d4 := d4) (d5 := d5) hl h0
  have hlen := manyL_len d0 d1 d2 d3 d4 d5 lo hi
  have hfr := manyL_free (d0 := d0) (d1 := d1) (d2 := d2) (d3 := d3) (d4 := d4) (d5 := d5) hl
  have ne : manyL d0 d1 d2 d3 d4 d5 lo hi ≠ [] := List.length_pos_iff.mp (by omega)
  have hit := items_join ne fun t ht => (hfr t ht).1
  rw [readF_tx hl (by omega)]
  have hT : ∀ j y, (manyT d0 d1 d2 lo hi)[j]? = some y → itemN y lo hi ≠ 0 := fun j y hy => (manyT_ok hl y (List.mem_of_getElem? hy)).2.1
  have hp := manyP_lt (d0 := d0) (d3 := d3) h4
  have w5 := (wrong_ok hl (wrongT_mem d5 lo hi)).1
  by_cases q : d3 = 0 ∨ 40 ≤ manyP d0 d3 d4
  · have e : manyA d0 d3 d4 = 40 := by
      unfold manyA
      split <;> omega
    rw [e]
    refine fieldR_many hj ?_ (by rw [hit, hlen]; omega)
    rw [hit]
    refine badAt_none fun j y hj hy => ?_
    unfold manyL at hy
    split at hy
    · exact hT j y hy
    · rw [List.getElem?_set_ne (by omega)] at hy
      exact hT j y hy
  · have e : manyA d0 d3 d4 = manyP d0 d3 d4 := by
      unfold manyA
      rw [if_neg (by omega)]
      omega
    rw [e]
    refine fieldR_bad hj ?_
    rw [hit]
    unfold manyL
    rw [if_neg (by omega)]
    refine badAt_at (x := wrongT d5 lo hi) (by omega) (List.getElem?_set_self (by rw [manyT_len]; exact hp)) w5 fun j y hj hy => ?_
    rw [List.getElem?_set_ne (by omega)] at hy
    exact hT j y hy
def phi_law_many : List D → Ro
  | [.lst [.v (.int d0), .v (.int d1), .v (.int d2), .v (.int d3), .v (.int d4), .v (.int d5)], .v (.int lo), .v (.int hi)] => if (0 ≤ d0 ∧ d0 < 12) ∧ 0 ≤ d1 ∧ 0 ≤ d2 ∧ 0 ≤ d3 ∧ (0 ≤ d4 ∧ d4 < 40) ∧ 0 ≤ d5 ∧ 0 ≤ lo ∧ lo ≤ hi ∧ hi < 64 then
      .val (.tup [.tx (TL.joinL [44] (manyL d0.toNat d1.toNat d2.toNat d3.toNat d4.toNat d5.toNat lo.toNat hi.toNat)), .int (manyA d0.toNat d3.toNat d4.toNat : Nat)]) else .bad
  | _ => .bad
theorem many_val {d0 d1 d2 d3 d4 d5 lo hi : Nat} (h0 : d0 < 12) (h4 : d4 < 40) (hl : lo ≤ hi ∧ hi < 64) : phi_law_many [.lst [.int (d0 : Nat), .int (d1 : Nat), .int (d2 : Nat), .int (d3 : Nat), .int (d4 : Nat), .int (d5 : Nat)], .int (lo : Nat), .int (hi : Nat)] =
    .val (.tup [.tx (TL.joinL [44] (manyL d0 d1 d2 d3 d4 d5 lo hi)), .int (manyA d0 d3 d4 : Nat)]) := if_pos (by omega)
theorem many_inv {ds : List D} (hb : phi_law_many ds ≠ .bad) : ∃ (d0 d1 d2 d3 d4 d5 lo hi : Nat), ds = [.lst [.int (d0 : Nat), .int (d1 : Nat), .int (d2 : Nat), .int (d3 : Nat), .int (d4 : Nat), .int (d5 : Nat)], .int (lo : Nat), .int (hi : Nat)] ∧ d0 < 12 ∧ d4 < 40 ∧ lo ≤ hi ∧ hi < 64 := by
  unfold phi_law_many at hb
  split at hb
  · rename_i d0 d1 d2 d3 d4 d5 lo hi
    have h := if_ok hb
    refine ⟨d0.toNat, d1.toNat, d2.toNat, d3.toNat, d4.toNat, d5.toNat, lo.toNat, hi.toNat, ?_, by omega, by omega, by omega, by omega⟩
    rw [Int.toNat_of_nonneg (by omega), Int.toNat_of_nonneg (by omega), Int.toNat_of_nonneg (by omega), Int.toNat_of_nonneg (by omega), Int.toNat_of_nonneg (by omega), Int.toNat_of_nonneg (by omega), Int.toNat_of_nonneg (by omega), Int.toNat_of_nonneg (by omega)]
  · exact absurd rfl hb
def oddsF : List D := [.non, .int 5, .bl true, .lst [.tx [42]], .tup [.tx [42]], .dct [] []]
theorem oddsF_ok {k : Nat} (h : k < 6) : notTx (oddsF.getD k .non) = true := by
  have : k = 0 ∨ k = 1 ∨ k = 2 ∨ k = 3 ∨ k = 4 ∨ k = 5 := by omega
  rcases this with rfl | rfl | rfl | rfl | rfl | rfl <;> rfl
theorem oddsF_ix {k : Nat} (h : k < 6) : atI oddsF (k : Int) = some (oddsF.getD k .non) := by
  refine atI_nat ?_
  rw [List.getD_eq_getElem?_getD, List.getElem?_eq_getElem (by exact h)]
  rfl
/-! the fixed texts -/
def T33 : List Nat := TL.joinL [44] (List.replicate 33 [49, 48, 45, 53, 57, 47, 49, 48])
theorem T33_len : T33.length = 296 := by decide +kernel
def goodB (l : List Nat) (lo hi : Nat) : Bool := decide (l.length ≤ 300) && (decide ((itemsN l).length ≤ 40) && (itemsN l).all fun p => !decide (itemN p lo hi = 0))
theorem goodB_ok {l : List Nat} {lo hi : Nat} (h : goodB l lo hi = true) : goodF l lo hi := by
  unfold goodB at h
  simp only [Bool.and_eq_true, decide_eq_true_eq, List.all_eq_true, Bool.not_eq_true', decide_eq_false_iff_not] at h
  exact h
theorem T33_good : goodB (T33 ++ [44, 48, 45, 57]) 0 59 = true := by decide +kernel
theorem T2_good : goodB [42, 47, 49, 48, 44, 48, 45, 57] 0 59 = true := by decide +kernel
theorem T33_field : fieldN (T33 ++ [44, 48, 45, 57]) 0 59 = fieldN [42, 47, 49, 48, 44, 48, 45, 57] 0 59 := by decide +kernel
theorem rep_txs (n : Nat) (l : List Nat) : (List.replicate n [D.tx l]).flatten = txs (List.replicate n l) := by
  unfold txs
  induction n with
  | zero => rfl
  | succ n ih =>
    rw [List.replicate_succ, List.flatten_cons, ih, List.replicate_succ]
    rfl
theorem orN_rep (lo hi : Nat) (t : List Nat) (n : Nat) : orN (List.replicate (n + 1) t) lo hi = itemN t lo hi := Nat.eq_of_testBit_eq fun i => by
  rw [orN_bit]
  cases e : (itemN t lo hi).testBit i with
  | true => exact List.any_eq_true.mpr ⟨t, by simp, e⟩
  | false =>
    refine List.any_eq_false.mpr fun x hx => ?_
    rw [List.eq_of_mem_replicate hx, e]
    decide
theorem mask_one (n : Nat) : maskOf (toldN n n 1) = 2 ^ n := Nat.eq_of_testBit_eq fun i => by
  rw [maskOf_bit, Nat.testBit_two_pow, decide_eq_decide, mem_told]
  constructor
  · rintro ⟨h1, h2, _⟩
    omega
  · rintro rfl
    exact ⟨Nat.le_refl _, Nat.le_refl _, Nat.mod_one _⟩
theorem join_rep_len (n : Nat) (t : List Nat) (h : 0 < n) : (TL.joinL [44] (List.replicate n t)).length + 1 = n * (t.length + 1) := by
  have e := joinL_len 44 (ts := List.replicate n t) (by intro z; have := congrArg List.length z; simp at this; omega)
  have s : ((List.replicate n t).map (·.length)).sum = n * t.length := by
    clear e
    induction n with
    | zero => simp
    | succ n ih =>
      by_cases q : n = 0
      · subst q
        simp
      · rw [List.replicate_succ, List.map_cons, List.sum_cons, ih (by omega), Nat.succ_mul, Nat.add_comm]
  rw [List.length_replicate, s] at e
  rw [Nat.mul_add]
  omega

section
variable {P : Program} {w : World} {K : PySem.W.Frag} {mg : Str → Option Value} {base : Heap}
variable {a_FieldError a_NoDay a_NoMoment a_NoField a_NoRow a_NoBook a_NoClock a_NoName a_NoWord : Addr}
theorem ok_mask_of (T : DefAt K mg "mask_of" s_mask_of ["numbers"]) : FnC P w K mg base "mask_of" 1 1 phi_mask_of := by
  refine def_ok T sc_mask_of (nk := nk_mask_of) rfl (by decide +kernel) rfl fun X W ds B S hl nb => ?_
  obtain ⟨l, rfl, hl1, hl2, e⟩ := inv_N nb
  refine ⟨.ret (.int (maskOf l : Nat)), ?_, by
    rw [show phi_mask_of [.lst (nl l)] = _ from e]
    exact .ret _⟩
  refine (x_setE B S 1 1 (ρ1 := [_, _, _]) xe_int rfl ?_)
  refine x_for B S (xi_list (x_var B 0 0)) (fo_fold (fun y : Nat => [.val (.lst (nl l)), .val (.int (y : Nat)), .no]) (fun y d => y ||| 2 ^ (toInt1 d).toNat) (y := 0) (fun _ r => ∀ d ∈ r, ∃ n : Nat, d = .int (n : Nat) ∧ n < 64) (fun d hd => by
    unfold nl at hd
    rw [List.map_map] at hd
    obtain ⟨n, hn, rfl⟩ := List.mem_map.mp hd
    exact ⟨n, rfl, hl1 n hn⟩) fun y d r hp => ⟨fun x hx => hp x (List.mem_cons_of_mem _ hx), ?_⟩) ?_
  · obtain ⟨n, rfl, hn⟩ := hp d List.mem_cons_self
    refine ⟨[_, _, _], (x_tgt B S.fn 2 2), ?_⟩
    exact (x_setE B S 1 1 (ρ1 := [_, _, _]) ((x_bin (x_var B 1 1) (x_bin xe_int (x_var B 2 2) (.shlI _ _ ⟨by omega, by omega, by decide⟩)) (.orI _ _)).is (ornat y n)) rfl (xb_end (by (repeat' (first | exact WkL.nil | apply WkL.cons)) <;> (first | exact Wk.same _ | exact Wk.no _))))
  rw [fold_nl]
  exact x_ret (x_var B 1 1)
theorem ok_only_figures (T : DefAt K mg "only_figures" s_only_figures ["signs"]) (g_FIGURES : GlD K mg "FIGURES" d_FIGURES) : FnC P w K mg base "only_figures" 1 1 phi_only_figures := by
  refine def_ok T sc_only_figures (nk := nk_only_figures) rfl (by decide +kernel) rfl fun X W ds B S hl nb => ?_
  obtain ⟨l, rfl, _⟩ := inv_T nb
  refine ⟨.ret (.bl (onlyF l)), ?_, .ret _⟩
  by_cases h : (l.any fun c => !decide (c ∈ figs)) = true
  · have e : onlyF l = false := by
      unfold onlyF
      obtain ⟨c, hc, h2⟩ := List.any_eq_true.mp h
      rw [Bool.and_eq_false_iff]
      exact .inl (List.all_eq_false.mpr ⟨c, hc, by simpa using h2⟩)
    rw [e]
    refine x_forX B S (xi_str (x_var B 0 0)) (fo_stop (o := .ret (.bl false)) (fun c => !decide (c ∈ figs)) trivial (by simp) (by simp) (fun c hc => ⟨[_, _], (x_tgt B S.fn 1 1), fun q => ?_, fun q => ?_⟩) h) trivial
    · exact xb_ifT (t_notInT (x_var B 1 1) (x_gd B 2 g_FIGURES)) q (x_ret xe_bl) trivial
    · exact xb_ifF (t_notInT (x_var B 1 1) (x_gd B 2 g_FIGURES)) q (xb_end (by (repeat' (first | exact WkL.nil | apply WkL.cons)) <;> (first | exact Wk.same _ | exact Wk.no _)))
  · have h' := Bool.eq_false_iff.mpr h
    refine x_for B S (xi_str (x_var B 0 0)) (fo_allM fun c hc => ⟨[_, _], (x_tgt B S.fn 1 1), ?_⟩) ?_
    · exact xb_ifF (t_notInT (x_var B 1 1) (x_gd B 2 g_FIGURES)) (Bool.eq_false_iff.mpr fun q => h (List.any_eq_true.mpr ⟨c, hc, q⟩)) (xb_end (by (repeat' (first | exact WkL.nil | apply WkL.cons)) <;> (first | exact Wk.same _ | exact Wk.no _)))
    · refine (x_ret (x_neT (x_var B 0 0) (x_lit []))).is ?_
      unfold onlyF
      have : (l.all fun c => decide (c ∈ figs)) = true := List.all_eq_true.mpr fun c hc => by
        have := List.any_eq_false.mp h' c hc
        by_cases q : c ∈ figs
        · exact decide_eq_true q
        · exact absurd (by rw [decide_eq_false q]; rfl) this
      rw [this, Bool.true_and]
theorem ok_number_in (T : DefAt K mg "number_in" s_number_in ["text", "low", "high"]) (c_only_figures : FnC P w K mg base "only_figures" 1 1 phi_only_figures) (m_len : mg "len" = none) (m_int : mg "int" = none) : FnC P w K mg base "number_in" 2 3 phi_number_in := by
  refine def_ok T sc_number_in (nk := nk_number_in) rfl (by decide +kernel) rfl fun X W ds B S hl nb => ?_
  obtain ⟨l, lo, hi, rfl, hb, hl, e, _⟩ := inv_TB nb
  refine ⟨.retO (nl (numN l lo hi)), ?_, by
    rw [show phi_number_in [.tx l, .int (lo : Nat), .int (hi : Nat)] = _ from e]
    exact .fr _⟩
  refine xb_if (B := badNum l) ((xv_or (xt_not (xt_val (x_call B c_only_figures 3 (xa_cons (x_var B 0 0) xa_nil) rfl))) fun hq0 => (xv_or (xt_cmpv (x_lenT B 4 m_len (x_var B 0 0) (by omega)) xe_int (.gt _ _)) fun hq1 => (xv_or1 ((xv_and (t_eqT (x_ixC (x_var B 0 0) xe_int (onlyF_at hq0) (by omega)) (x_lit [48])) fun hq0 => (xv_and1 (t_neT (x_var B 0 0) (x_lit [48]))))).t)))).t (fun h => ⟨?_, trivial⟩) fun h => ?_
  · rw [show numN l lo hi = [] from if_pos h]
    exact (x_retO (xo_lst xa_nil)).is rfl
  · have hf : onlyF l = true := by
      unfold badNum at h
      simp only [Bool.or_eq_false_iff] at h
      simpa using h.1
    have hlen : l.length ≤ 2 := by
      unfold badNum at h
      simp only [Bool.or_eq_false_iff, decide_eq_false_iff_not] at h
      omega
    have e2 : nl (numN l lo hi) = (([NumText.digitsVal l] : List Nat).filter (fun n => decide (lo ≤ n) && decide (n ≤ hi))).map fun n => D.int (n : Nat) := by
      unfold numN
      rw [if_neg (by rw [h]; decide)]
      by_cases q : lo ≤ NumText.digitsVal l ∧ NumText.digitsVal l ≤ hi
      · rw [if_pos q]
        simp [nl, q.1, q.2]
      · rw [if_neg q]
        by_cases q1 : lo ≤ NumText.digitsVal l <;> by_cases q2 : NumText.digitsVal l ≤ hi <;> simp_all [nl]
    rw [e2]
    refine x_retO (xo_lcE B (own := [("number", 3)]) (ρ2 := [_, _, _, _]) (okb B) (xi_list (xo_lst (xa_cons (x_intT B 5 m_int (x_var B 0 0) (onlyF_int hf (by omega)) (by omega)) xa_nil)).dat) (by simp) rfl (lc_fil (F := fun n => D.int (n : Nat)) (fun n => decide (lo ≤ n) && decide (n ≤ hi)) (as := [NumText.digitsVal l]) ?lc))
    case lc =>
      intro n hn
      exact ⟨[_, _, _, _], blk_of (nkc := [(".0", .«local»), ("number", .«local»), ("high", .free), ("low", .free)]) rfl (by decide +kernel) B fun Y Bc => (x_tgw Bc 3 1), blk_of (nkc := [(".0", .«local»), ("number", .«local»), ("high", .free), ("low", .free)]) rfl (by decide +kernel) B fun Y Bc => ((t_chain (x_var Bc 1 3) (x_var Bc 3 1) (.le _ _) (fun hc => (x_var Bc 2 2)) (fun hc => (.le _ _)))).is (by rw [Bool.eq_iff_iff]; simp), fun _ => blk_of (nkc := [(".0", .«local»), ("number", .«local»), ("high", .free), ("low", .free)]) rfl (by decide +kernel) B fun Y Bc => (x_var Bc 3 1)⟩
theorem ok_span_in (T : DefAt K mg "span_in" s_span_in ["text", "low", "high"]) (c_number_in : FnC P w K mg base "number_in" 2 3 phi_number_in) (m_len : mg "len" = none) : FnC P w K mg base "span_in" 3 3 phi_span_in := by
  refine def_ok T sc_span_in (nk := nk_span_in) rfl (by decide +kernel) rfl fun X W ds B S hl nb => ?_
  obtain ⟨l, lo, hi, rfl, hb, hl, e, _⟩ := inv_TB nb
  refine ⟨.retO (nl (spanN l lo hi)), ?_, by
    rw [show phi_span_in [.tx l, .int (lo : Nat), .int (hi : Nat)] = _ from e]
    exact .fr _⟩
  refine xb_if (t_eqT (x_var B 0 0) (x_lit [42])) (fun h => ⟨?_, trivial⟩) fun h => ?_
  · rw [show spanN l lo hi = [lo, hi] from if_pos (by simpa using h)]
    exact (x_retO (xo_lst (xa_cons (x_var B 1 1) (xa_cons (x_var B 2 2) xa_nil)))).is rfl
  have hn : l ≠ [42] := by simpa using h
  have hs := spl_len [45] l 0 []
  refine (x_setLcE B S 3 3 (own := [("part", 4)]) (ρ2 := [_, _, _, _, _]) (ρ1 := [_, _, _, _, _]) (okb B) (xi_list (x_split (x_var B 0 0) (x_lit [45]) (by omega) (by decide)).dat) (by unfold txs; rw [List.length_map]; omega) rfl (lc_mapM (F := D.tx) (G := fun p => listN (numN p lo hi)) ?lc) rfl ?_)
  case lc =>
    intro p hp
    have := hs.2 p hp
    simp only [List.length_nil] at this
    exact ⟨[_, _, _, _, _], blk_of (nkc := [(".0", .«local»), ("part", .«local»), ("number_in", .globalImplicit), ("high", .free), ("low", .free)]) rfl (by decide +kernel) B fun Y Bc => (x_tgw Bc 4 1), blk_of (nkc := [(".0", .«local»), ("part", .«local»), ("number_in", .globalImplicit), ("high", .free), ("low", .free)]) rfl (by decide +kernel) B fun Y Bc => (x_callO Bc c_number_in 2 (xa_cons (x_var Bc 4 1) (xa_cons (x_var Bc 1 4) (xa_cons (x_var Bc 2 3) xa_nil))) (num_val ⟨hb, by omega⟩)).dat⟩
  rw [show (TL.spl [45] 0 [] l).map (fun p => listN (numN p lo hi)) = (endsN l lo hi).map listN by unfold endsN; rw [List.map_map]; rfl]
  refine xb_freezeE (ρ1 := [_, _, _, _, _]) 3 rfl rfl ?_
  have ne := ends_ne l lo hi
  have hsp : spanN l lo hi = if badSpan (endsN l lo hi) = true then [] else [((endsN l lo hi).headD []).headD 0, ((endsN l lo hi).getLastD []).headD 0] := if_neg hn
  rw [hsp]
  generalize endsN l lo hi = es at *
  refine xb_if (B := badSpan es) (XT.is ((xv_or (xt_cmpv (x_len B 4 m_len (x_var B 3 3) (by first | exact .lst _ | exact .tup _ | exact .str _ (by first | assumption | omega | decide))) xe_int (.gt _ _)) fun hq0 => (xv_or (t_inD B (xo_lst xa_nil).dat (x_var B 3 3) (inD_nl es)) fun hq1 => (xv_or1 (xt_cmpv (x_ix (x_ix (x_var B 3 3) xe_int (.lst _ _ _ (at_headF [] ne))) xe_int (.lst _ _ _ (nl_head (any_ne hq1 (head_mem ne))))) (x_ix (x_ix (x_var B 3 3) (xe_neg xe_int) (.lst _ _ _ (at_lastF [] ne))) xe_int (.lst _ _ _ (nl_head (any_ne hq1 (last_mem ne))))) (.gt _ _)))))).t ?bs) (fun h => ⟨?_, trivial⟩) fun h => ?_
  case bs =>
    unfold badSpan
    rw [List.length_map, Bool.or_assoc]
  · rw [if_pos h]
    exact (x_retO (xo_lst xa_nil)).is rfl
  · rw [if_neg (by rw [h]; decide)]
    have ha : (es.any fun e => decide (e = [])) = false := by
      unfold badSpan at h
      simp only [Bool.or_eq_false_iff] at h
      exact h.1.2
    exact (x_retO (xo_lst (xa_cons (x_ix (x_ix (x_var B 3 3) xe_int (.lst _ _ _ (at_headF [] ne))) xe_int (.lst _ _ _ (nl_head (any_ne ha (head_mem ne))))) (xa_cons (x_ix (x_ix (x_var B 3 3) (xe_neg xe_int) (.lst _ _ _ (at_lastF [] ne))) xe_int (.lst _ _ _ (nl_head (any_ne ha (last_mem ne))))) xa_nil)))).is rfl
theorem ok_item_mask (T : DefAt K mg "item_mask" s_item_mask ["item", "low", "high"]) (c_span_in : FnC P w K mg base "span_in" 3 3 phi_span_in) (c_mask_of : FnC P w K mg base "mask_of" 1 1 phi_mask_of) (c_number_in : FnC P w K mg base "number_in" 2 3 phi_number_in) (c_only_figures : FnC P w K mg base "only_figures" 1 1 phi_only_figures) (m_len : mg "len" = none) (m_list : mg "list" = none) (m_range : mg "range" = none) (g_MOST_STRIDE : GlD K mg "MOST_STRIDE" d_MOST_STRIDE) : FnC P w K mg base "item_mask" 4 3 phi_item_mask := by
  refine def_ok T sc_item_mask (nk := nk_item_mask) rfl (by decide +kernel) rfl fun X W ds B S hl nb => ?_
  obtain ⟨l, lo, hi, rfl, hb, hl, e, nb2⟩ := inv_TB nb
  have hh : hi < 64 := by
    by_cases q : hi < 64
    · exact q
    · rw [if_neg q] at nb2
      exact absurd rfl nb2
  rw [if_pos hh] at e
  refine ⟨.ret (.int (itemN l lo hi : Nat)), ?_, by
    rw [show phi_item_mask [.tx l, .int (lo : Nat), .int (hi : Nat)] = _ from e]
    exact .ret _⟩
  refine (x_setOE B S 3 3 (ρ1 := [_, _, _, _, _, _]) (x_split (x_var B 0 0) (x_lit [47]) (by omega) (by decide)) rfl ?_)
  have hs := spl_len [47] l 0 []
  have ne := spl_ne [47] l 0 []
  rw [show itemN l lo hi = (let hs := TL.spl [47] 0 [] l
    match spanN (hs.headD []) lo hi with
    | [a, b] => if 2 < hs.length then 0 else if hs.length = 1 then maskOf ((List.range (b + 1 - a)).map fun q => a + q) else
        match numN (hs.getD 1 []) 1 99 with
        | [s] => maskOf (stepsN a (if onlyF (hs.headD []) = true then hi else b) s)
        | _ => 0
    | _ => 0) from rfl]
  generalize TL.spl [47] 0 [] l = hs' at *
  refine xb_freezeE (ρ1 := [_, _, _, _, _, _]) 3 rfl rfl ?_
  have hp : ∀ p ∈ hs', p.length ≤ 1000 := fun p hp => by
    have := hs.2 p hp
    simp only [List.length_nil] at this
    omega
  have h0 := head_mem (d := []) ne
  refine (x_setOE B S 4 4 (ρ1 := [_, _, _, _, _, _]) (x_callO B c_span_in 6 (xa_cons (x_ix (x_var B 3 3) xe_int (.lst _ _ _ (at_headF [] ne))) (xa_cons (x_var B 1 1) (xa_cons (x_var B 2 2) xa_nil))) (span_val ⟨hb, hp _ h0⟩)) rfl ?_)
  rcases spanN_shape (hs'.headD []) lo hi hb.1 with q | ⟨a, b, q, qa, qb, qc⟩
  · simp only [q]
    refine xb_ifT ((xv_or (t_eqD B (x_own B 4 4) ((xo_lst xa_nil).dat).w (eqD_nl _ [])) fun hq0 => (xv_or1 (xt_cmpv (x_len B 7 m_len (x_var B 3 3) (by first | exact .lst _ | exact .tup _ | exact .str _ (by first | assumption | omega | decide))) xe_int (.gt _ _))))).t ?_ (x_ret xe_int) trivial
    simp
  simp only [q]
  refine xb_if ((xv_or (t_eqD B (x_own B 4 4) ((xo_lst xa_nil).dat).w (eqD_nl _ [])) fun hq0 => (xv_or1 (xt_cmpv (x_len B 7 m_len (x_var B 3 3) (by first | exact .lst _ | exact .tup _ | exact .str _ (by first | assumption | omega | decide))) xe_int (.gt _ _))))).t (fun h => ⟨?_, trivial⟩) fun h => ?_
  · have h' : 2 < hs'.length := by
      simp [txs] at h
      omega
    rw [if_pos h']
    exact x_ret xe_int
  have h' : ¬ 2 < hs'.length := by
    simp [txs] at h
    omega
  rw [if_neg h']
  refine xb_if (xt_cmpv (x_len B 7 m_len (x_var B 3 3) (by first | exact .lst _ | exact .tup _ | exact .str _ (by first | assumption | omega | decide))) xe_int (by first | exact .eqI _ _ | exact .eqS _ _ | exact .eqB _ _)) (fun h => ⟨?_, trivial⟩) fun h => ?_
  · have h1 : hs'.length = 1 := by
      simp only [decide_eq_true_eq, txs, List.length_map] at h
      omega
    rw [if_pos h1]
    have m1 : ∀ n ∈ (List.range (b + 1 - a)).map fun q => a + q, n < 64 := fun n hn => by
      obtain ⟨q, hq, rfl⟩ := List.mem_map.mp hn
      have := List.mem_range.mp hq
      omega
    have m2 : ((List.range (b + 1 - a)).map fun q => a + q).length ≤ 1000 := by
      simp
      omega
    exact x_ret (x_call B c_mask_of 8 (xa_cons (x_listR2 B 9 10 m_list m_range (x_ixQ (x_ownQ B 4 4) xe_int ix0) (x_bin (x_ixQ (x_ownQ B 4 4) xe_int ix1) xe_int (by first | exact .addI _ _ | exact .catS _ _ (by first | assumption | omega | decide))) (by exact ⟨by omega, by omega, by omega, by omega, by omega⟩)).dat xa_nil) (by rw [span_nl]; exact mask_val m1 m2))
  have h1 : hs'.length ≠ 1 := by
    simp only [decide_eq_false_iff_not, txs, List.length_map] at h
    omega
  rw [if_neg h1]
  have h2 : hs'.length = 2 := by
    have : hs'.length ≠ 0 := fun z => ne (List.eq_nil_of_length_eq_zero z)
    omega
  refine (x_setOE B S 5 5 (ρ1 := [_, _, _, _, _, _]) (x_callO B c_number_in 11 (xa_cons (x_ix (x_var B 3 3) xe_int (.lst _ _ _ (ixh1 (by omega)))) (xa_cons xe_int (xa_cons (x_gd B 12 g_MOST_STRIDE) xa_nil))) (num_val (lo := 1) (hi := 99) ⟨by decide, hp _ ?h7⟩)) rfl ?_)
  case h7 =>
    match hs', h2 with
    | [x, y], _ => simp
  refine xb_if (t_eqD B (x_own B 5 5) ((xo_lst xa_nil).dat).w (eqD_nl _ [])) (fun h => ⟨?_, trivial⟩) fun h => ?_
  · have h3 : numN (hs'.getD 1 []) 1 99 = [] := by simpa using h
    simp only [h3]
    exact x_ret xe_int
  have h3 : numN (hs'.getD 1 []) 1 99 ≠ [] := by simpa using h
  obtain ⟨s, hs3⟩ : ∃ s, numN (hs'.getD 1 []) 1 99 = [s] := ⟨_, numN_one h3⟩
  have hs4 := numN_mem (n := s) (by rw [hs3]; exact List.mem_singleton.mpr rfl)
  simp only [hs3]
  refine xb_ifm (ρ1 := [.val (.tx l), .val (.int (lo : Nat)), .val (.int (hi : Nat)), .val (.lst (txs hs')), .own (nl [a, if onlyF (hs'.headD []) = true then hi else b]), .own (nl [s])]) (xt_val (x_call B c_only_figures 13 (xa_cons (x_ix (x_var B 3 3) xe_int (.lst _ _ _ (at_headF [] ne))) xa_nil) rfl)) (fun h => ?_) (fun h => ?_) ?_
  · rw [if_pos h]
    exact x_stE B 4 4 (ρ1 := [_, _, _, _, _, _]) rfl (x_var B 2 2) xe_int (by rfl) rfl xb_nil
  · rw [if_neg (by rw [h]; decide)]
    exact xb_nil
  have hz : (if onlyF (hs'.headD []) = true then hi else b) < 64 := by split <;> omega
  generalize (if onlyF (hs'.headD []) = true then hi else b) = z at *
  have m1 : ∀ n ∈ stepsN a z s, n < 64 := fun n hn => by
    have := (mem_steps (by omega)).mp hn
    omega
  have m2 : (stepsN a z s).length ≤ 1000 := by
    have := steps_len (a := a) (b := z) (s := s) (by omega)
    omega
  exact x_ret (x_call B c_mask_of 8 (xa_cons (x_listR3 B 9 10 m_list m_range (x_ixQ (x_ownQ B 4 4) xe_int ix0) (x_bin (x_ixQ (x_ownQ B 4 4) xe_int ix1) xe_int (by first | exact .addI _ _ | exact .catS _ _ (by first | assumption | omega | decide))) (x_ixQ (x_ownQ B 5 5) xe_int ix0) (by omega)).dat xa_nil) (by rw [steps_nl]; exact mask_val m1 m2))
theorem ok_read_field (T : DefAt K mg "read_field" s_read_field ["text", "low", "high"]) (c_item_mask : FnC P w K mg base "item_mask" 4 3 phi_item_mask) (m_isinstance : mg "isinstance" = none) (m_str : mg "str" = none) (m_len : mg "len" = none) (m_enumerate : mg "enumerate" = none) (g_MOST_SIGNS : GlD K mg "MOST_SIGNS" d_MOST_SIGNS) (g_MOST_ITEMS : GlD K mg "MOST_ITEMS" d_MOST_ITEMS) (x_NoField : ExCls K mg "NoField" a_NoField) (i_NoField : ExI P w K mg base "NoField" a_NoField "at") : FnC P w K mg base "read_field" 5 3 (phi_readF a_NoField) := by
  refine def_ok T sc_read_field (nk := nk_read_field) rfl (by decide +kernel) rfl fun X W ds B S hl nb => ?_
  rcases inv_readF nb with ⟨l, lo, hi, rfl, hb, hl⟩ | ⟨d, lo, hi, rfl, hb, hd⟩
  rotate_left
  · rw [readF_odd hb hd]
    refine ⟨.exc a_NoField ["at"] [.int 0] [.val d, .val (.int (lo : Nat)), .val (.int (hi : Nat)), .no, .no, .no, .no, .no], ?_, .exc _ _ _ _⟩
    cases d with
    | v x => cases x with
      | non => exact xb_ifT (XV.t (xv_orT (xt_not (xt_val (x_isi B 8 9 m_isinstance (x_var B 0 0) (x_cls B 9 m_str boot_str) (.ty _) (by first | exact .int _ | exact .bl _ | exact .str _ | exact .tup _ | exact .lst _ | exact .non | exact .dct _ _) kit_is))) (by rfl))) rfl (x_raiseI B S i_NoField 12 xe_int) trivial
      | bl b => exact xb_ifT (XV.t (xv_orT (xt_not (xt_val (x_isi B 8 9 m_isinstance (x_var B 0 0) (x_cls B 9 m_str boot_str) (.ty _) (by first | exact .int _ | exact .bl _ | exact .str _ | exact .tup _ | exact .lst _ | exact .non | exact .dct _ _) kit_is))) (by rfl))) rfl (x_raiseI B S i_NoField 12 xe_int) trivial
      | int i => exact xb_ifT (XV.t (xv_orT (xt_not (xt_val (x_isi B 8 9 m_isinstance (x_var B 0 0) (x_cls B 9 m_str boot_str) (.ty _) (by first | exact .int _ | exact .bl _ | exact .str _ | exact .tup _ | exact .lst _ | exact .non | exact .dct _ _) kit_is))) (by rfl))) rfl (x_raiseI B S i_NoField 12 xe_int) trivial
      | str z => cases hd
      | _ => cases hd
    | lst m => exact xb_ifT (XV.t (xv_orT (xt_not (xt_val (x_isi B 8 9 m_isinstance (x_var B 0 0) (x_cls B 9 m_str boot_str) (.ty _) (by first | exact .int _ | exact .bl _ | exact .str _ | exact .tup _ | exact .lst _ | exact .non | exact .dct _ _) kit_is))) (by rfl))) rfl (x_raiseI B S i_NoField 12 xe_int) trivial
    | tup m => exact xb_ifT (XV.t (xv_orT (xt_not (xt_val (x_isi B 8 9 m_isinstance (x_var B 0 0) (x_cls B 9 m_str boot_str) (.ty _) (by first | exact .int _ | exact .bl _ | exact .str _ | exact .tup _ | exact .lst _ | exact .non | exact .dct _ _) kit_is))) (by rfl))) rfl (x_raiseI B S i_NoField 12 xe_int) trivial
    | dct ks m => exact xb_ifT (XV.t (xv_orT (xt_not (xt_val (x_isi B 8 9 m_isinstance (x_var B 0 0) (x_cls B 9 m_str boot_str) (.ty _) (by first | exact .int _ | exact .bl _ | exact .str _ | exact .tup _ | exact .lst _ | exact .non | exact .dct _ _) kit_is))) (by rfl))) rfl (x_raiseI B S i_NoField 12 xe_int) trivial
    | _ => cases hd
  rw [readF_tx hb hl]
  by_cases h3 : 300 < l.length
  · rw [fieldR_long h3]
    refine ⟨.exc a_NoField ["at"] [.int 0] [.val (.tx l), .val (.int (lo : Nat)), .val (.int (hi : Nat)), .no, .no, .no, .no, .no], ?_, .exc _ _ _ _⟩
    exact xb_ifT ((xv_or (xt_not (xt_val (x_isi B 8 9 m_isinstance (x_var B 0 0) (x_cls B 9 m_str boot_str) (.ty _) (by first | exact .int _ | exact .bl _ | exact .str _ | exact .tup _ | exact .lst _ | exact .non | exact .dct _ _) kit_is))) fun hq0 => (xv_or1 (xt_cmpv (x_lenT B 10 m_len (x_var B 0 0) (by omega)) (x_gd B 11 g_MOST_SIGNS) (.gt _ _))))).t (by simp; omega) (x_raiseI B S i_NoField 12 xe_int) trivial
  have hs := (spl_len [44] l 0 []).2
  unfold fieldR
  rw [if_neg h3]
  unfold fieldN
  have ei : TL.spl [44] 0 [] l = itemsN l := rfl
  rw [ei] at hs
  have st : ∀ o, XB X W [.val (.tx l), .val (.int (lo : Nat)), .val (.int (hi : Nat)), .val (.int 0), .val (.lst (txs (itemsN l))), .no, .no, .no] ((defBody s_read_field).drop 3) o → XB X W (startE N_read_field [.tx l, .int (lo : Nat), .int (hi : Nat)]) (defBody s_read_field) o := fun o ho => by
    refine xb_ifF ((xv_or (xt_not (xt_val (x_isi B 8 9 m_isinstance (x_var B 0 0) (x_cls B 9 m_str boot_str) (.ty _) (by first | exact .int _ | exact .bl _ | exact .str _ | exact .tup _ | exact .lst _ | exact .non | exact .dct _ _) kit_is))) fun hq0 => (xv_or1 (xt_cmpv (x_lenT B 10 m_len (x_var B 0 0) (by omega)) (x_gd B 11 g_MOST_SIGNS) (.gt _ _))))).t ?bb ?_
    case bb =>
      show (!true || decide (((l.length : Nat) : Int) > 300)) = false
      simp
      omega
    refine (x_setE B S 3 3 (ρ1 := [_, _, _, _, _, _, _, _]) xe_int rfl ?_)
    refine (x_setOE B S 4 4 (ρ1 := [_, _, _, _, _, _, _, _]) (x_split (x_var B 0 0) (x_lit [44]) (by omega) (by decide)) rfl ?_)
    exact xb_freezeE (ρ1 := [_, _, _, _, _, _, _, _]) 4 rfl rfl ho
  generalize itemsN l = its at *
  have key : ∃ o, XB X W [.val (.tx l), .val (.int (lo : Nat)), .val (.int (hi : Nat)), .val (.int ((0 : Nat) : Int)), .val (.lst (txs its)), .no, .no, .no] ((defBody s_read_field).drop 3) o ∧ Leads o (match badAt its lo hi with
      | none => if 40 < its.length then Ro.exc a_NoField ["at"] [.int 40] else .val (.int (its.foldl (fun m p => m ||| itemN p lo hi) 0 : Nat))
      | some i => .exc a_NoField ["at"] [.int (i : Nat)]) := by
    refine x_enumX B S (F := D.tx) (fun y : Nat => [.val (.tx l), .val (.int (lo : Nat)), .val (.int (hi : Nat)), .val (.int (y : Nat)), .val (.lst (txs its)), .no, .no, .no]) (fun y p => y ||| itemN p lo hi) (fun p => decide (itemN p lo hi = 0)) (fun i => [.int (i : Nat)]) (as := its.take 40) (y := 0) (fun _ r => ∀ p ∈ r, p ∈ its) (cut40 its ▸ (x_enum B 13 m_enumerate (x_sliceL ((x_var B 4 4)).q xp_none (xp_some (x_gd B 14 g_MOST_ITEMS))).dat)) (fun p hp => List.mem_of_mem_take hp) (fun y p r n hr => ?_) (fun e => ?_)
    · have hp := hr p List.mem_cons_self
      have hpl := hs p hp
      refine ⟨[_, _, _, _, _, _, _, _], (xg_tup B.calm (xgs_cons (x_tgt B S.fn 5 5) (xgs_cons (x_tgt B S.fn 6 6) xgs_nil)) rfl), fun h => ?_, fun h => ⟨fun x hx => hr x (List.mem_cons_of_mem _ hx), ?_⟩⟩
      · refine ⟨[.val (.tx l), .val (.int (lo : Nat)), .val (.int (hi : Nat)), .val (.int (y : Nat)), .val (.lst (txs its)), .val (.int (n : Nat)), .val (.tx p), .val (.int (itemN p lo hi : Nat))], ?_⟩
        refine (x_setE B S 7 7 (ρ1 := [_, _, _, _, _, _, _, _]) (x_call B c_item_mask 15 (xa_cons (x_var B 6 6) (xa_cons (x_var B 1 1) (xa_cons (x_var B 2 2) xa_nil))) (item_val hb (by simp only [List.length_nil] at hpl; omega))) rfl ?_)
        exact xb_ifT (xt_cmpv (x_var B 7 7) xe_int (by first | exact .eqI _ _ | exact .eqS _ _ | exact .eqB _ _)) (by simpa using h) (x_raiseI B S i_NoField 12 (x_var B 5 5)) trivial
      · refine (x_setE B S 7 7 (ρ1 := [_, _, _, _, _, _, _, _]) (x_call B c_item_mask 15 (xa_cons (x_var B 6 6) (xa_cons (x_var B 1 1) (xa_cons (x_var B 2 2) xa_nil))) (item_val hb (by simp only [List.length_nil] at hpl; omega))) rfl ?_)
        refine xb_ifF (xt_cmpv (x_var B 7 7) xe_int (by first | exact .eqI _ _ | exact .eqS _ _ | exact .eqB _ _)) (by simpa using h) ?_
        exact (x_setE B S 3 3 (ρ1 := [_, _, _, _, _, _, _, _]) ((x_bin (x_var B 3 3) (x_var B 7 7) (.orI _ _)).is (congrArg D.int (or_nat _ _))) rfl (xb_end (by (repeat' (first | exact WkL.nil | apply WkL.cons)) <;> (first | exact Wk.same _ | exact Wk.no _))))
    · have en : (((txs its).length : Nat) : Int) = (its.length : Int) := by rw [txs_len]
      by_cases h4 : 40 < its.length
      · rw [if_pos h4]
        exact ⟨_, xb_ifT (B := decide ((((txs its).length : Nat) : Int) > 40)) (xt_cmpv (x_len B 10 m_len (x_var B 4 4) (by first | exact .lst _ | exact .tup _ | exact .str _ (by first | assumption | omega | decide))) (x_gd B 14 g_MOST_ITEMS) (.gt _ _)) (by rw [en]; simp; omega) (x_raiseI B S i_NoField 12 (x_gd B 14 g_MOST_ITEMS)) trivial, .exc _ _ _ [.val (.tx l), .val (.int (lo : Nat)), .val (.int (hi : Nat)), .val (.int ((its.take 40).foldl (fun y p => y ||| itemN p lo hi) 0 : Nat)), .val (.lst (txs its)), .no, .no, .no]⟩
      · rw [if_neg h4]
        refine ⟨_, xb_ifF (B := decide ((((txs its).length : Nat) : Int) > 40)) (xt_cmpv (x_len B 10 m_len (x_var B 4 4) (by first | exact .lst _ | exact .tup _ | exact .str _ (by first | assumption | omega | decide))) (x_gd B 14 g_MOST_ITEMS) (.gt _ _)) (by rw [en]; simp; omega) ?_, .ret (.int (its.foldl (fun m p => m ||| itemN p lo hi) 0 : Nat))⟩
        exact (x_ret (x_var B 3 3)).is (by rw [List.take_of_length_le (by omega)])
  obtain ⟨o, h1, h2⟩ := key
  refine ⟨o, st o h1, ?_⟩
  revert h2
  cases badAt its lo hi <;> exact id
theorem ok_law_cell_at (T : DefAt K mg "_law_cell_at" s_law_cell_at ["_law_script", "_law_k"]) (m_len : mg "len" = none) : FnC P w K mg base "_law_cell_at" 1 2 phi_law_cell_at := by
  refine def_ok T sc_law_cell_at (nk := nk_law_cell_at) rfl (by decide +kernel) rfl fun X W ds B S hl nb => ?_
  obtain ⟨l, k, rfl, hb⟩ := inv_LI nb
  have hk := if_ok hb
  refine ⟨.ret (l.getD k.toNat (.int ((k + 2) ^ Int.toNat 5 * 1299709 % 15485863))), ?_, by
    show Leads _ (if 0 ≤ k ∧ k ≤ 1000000 then Ro.val _ else .bad)
    rw [if_pos hk]
    exact .ret _⟩
  refine xb_if (xt_cmpv (x_var B 1 1) (x_len B 2 m_len (x_var B 0 0) (by first | exact .lst _ | exact .tup _ | exact .str _ (by first | assumption | omega | decide))) (.lt _ _)) (fun h => ⟨x_ret (x_ix (x_var B 0 0) (x_var B 1 1) (.lst _ _ _ ?ix)), trivial⟩) fun h => (x_ret (x_bin (x_bin (x_bin (x_bin (x_var B 1 1) xe_int (by first | exact .addI _ _ | exact .catS _ _ (by first | assumption | omega | decide))) xe_int (.powI _ _ ⟨by decide, by decide, by omega⟩)) xe_int (.mulI _ _ (.inr ⟨by decide, by decide⟩))) xe_int (.modI _ _ (by decide)))).is ?_
  case ix =>
    simp only [decide_eq_true_eq] at h
    have hlt : k.toNat < l.length := by omega
    exact ix_nat hk.1 (by rw [List.getD_eq_getElem?_getD, List.getElem?_eq_getElem hlt]; rfl)
  simp only [decide_eq_false_iff_not] at h
  have hlt : l.length ≤ k.toNat := by omega
  simp [hlt]
theorem ok_law_stir (T : DefAt K mg "_law_stir" s_law_stir ["_law_number"]) : FnC P w K mg base "_law_stir" 1 1 phi_law_stir := by
  refine def_ok T sc_law_stir (nk := nk_law_stir) rfl (by decide +kernel) rfl fun X W ds B S hl nb => ?_
  obtain ⟨c, rfl, hb⟩ := inv_I nb
  refine ⟨.ret (.int (stir c)), ?_, .ret _⟩
  have h1 : 0 ≤ stir1 c ∧ stir1 c < 4294967291 := ⟨Int.emod_nonneg _ (by decide), Int.emod_lt_of_pos _ (by decide)⟩
  have h2 : 0 ≤ stir2 c ∧ stir2 c < 999999937 := ⟨Int.emod_nonneg _ (by decide), Int.emod_lt_of_pos _ (by decide)⟩
  refine (x_setE B S 1 1 (d := .int (stir1 c)) (ρ1 := [_, _, _]) (x_bin (x_bin (x_bin (x_bin (x_var B 0 0) (x_bin xe_int xe_int (.powI _ _ ⟨by decide, by decide, by decide⟩)) (.modI _ _ (by decide))) xe_int (by first | exact .addI _ _ | exact .catS _ _ (by first | assumption | omega | decide))) xe_int (.mulI _ _ (.inr ⟨by decide, by decide⟩))) xe_int (.modI _ _ (by decide))) rfl ?_)
  refine (x_setE B S 2 2 (d := .int (stir2 c)) (ρ1 := [_, _, _]) (x_bin (x_bin (x_var B 1 1) (x_bin (x_bin (x_var B 1 1) xe_int (.modI _ _ (by decide))) xe_int (by first | exact .addI _ _ | exact .catS _ _ (by first | assumption | omega | decide))) (.mulI _ _ (.inl (by omega)))) xe_int (.modI _ _ (by decide))) rfl ?_)
  exact x_ret (x_bin (x_bin (x_var B 2 2) (x_bin (x_bin (x_var B 2 2) xe_int (.modI _ _ (by decide))) xe_int (by first | exact .addI _ _ | exact .catS _ _ (by first | assumption | omega | decide))) (.mulI _ _ (.inl (by omega)))) xe_int (.modI _ _ (by decide)))
theorem ok_law_digits (T : DefAt K mg "_law_digits" s_law_digits ["_law_cell", "_law_sizes", "_law_mixed"]) (c_law_stir : FnC P w K mg base "_law_stir" 1 1 phi_law_stir) (m_abs : mg "abs" = none) : FnC P w K mg base "_law_digits" 2 3 phi_law_digits := by
  refine def_ok T sc_law_digits (nk := nk_law_digits) rfl (by decide +kernel) rfl fun X W ds B S hl nb => ?_
  obtain ⟨c, ss, m, rfl, hs, hl'⟩ := dig_inv nb
  refine ⟨.retO ((digV m c ss).map D.int), ?_, by
    rw [dig_val hs hl']
    exact .fr _⟩
  refine (x_setOE B S 3 3 (ρ1 := [_, _, _, _, _]) (xo_lst xa_nil) rfl ?_)
  refine (x_setE B S 2 2 (d := .bl (m || small c)) (ρ1 := [_, _, _, _, _]) (xe_orV (x_var B 2 2) fun hq0 => (xe_one (xe_cmp (x_abs B 5 m_abs (x_var B 0 0)) (x_bin xe_int xe_int (.powI _ _ ⟨by decide, by decide, by decide⟩)) (.lt _ _)))) rfl ?_)
  refine x_for B S (xi_list (x_var B 1 1)) (fo_fold (fun y : Int × List D => [.val (.int y.1), .val (.lst (ss.map D.int)), .val (.bl (m || small c)), .own y.2, .no]) (digF (m || small c)) (y := (c, [])) (fun y r => (∃ t : List Int, r = t.map D.int ∧ ∀ s ∈ t, 0 < s ∧ s < 1073741824) ∧ y.2.length + r.length ≤ 1000) ⟨⟨ss, rfl, hs⟩, by simpa using hl'⟩ fun y d r hp => ?_) ?_
  · obtain ⟨⟨t, ht, h2⟩, h3⟩ := hp
    cases t with
    | nil => cases ht
    | cons s t =>
      cases ht
      have h4 := h2 s List.mem_cons_self
      simp only [List.length_cons, List.length_map] at h3
      refine ⟨⟨⟨t, rfl, fun x hx => h2 x (List.mem_cons_of_mem _ hx)⟩, ?_⟩, [_, _, _, _, _], (x_tgt B S.fn 4 4), ?_⟩
      · unfold digF
        split <;> simp <;> omega
      generalize hq : (m || small c) = q
      refine xb_ifm (xt_val (x_var B 2 2)) (fun h => ?_) (fun h => ?_) xb_nil
      · subst h
        exact (x_setE B S 0 0 (ρ1 := [_, _, _, _, _]) (x_call B c_law_stir 6 (xa_cons (x_var B 0 0) xa_nil) rfl) rfl (x_puE B 3 3 (ρ1 := [_, _, _, _, _]) rfl (x_bin (x_bin (x_var B 0 0) xe_int (.divI _ _ ⟨by decide, by decide⟩)) (x_var B 4 4) (.modI _ _ (by show 0 < s; omega))) (by omega) rfl (xb_end (by (repeat' (first | exact WkL.nil | apply WkL.cons)) <;> (first | exact Wk.same _ | exact Wk.no _)))))
      · subst h
        exact (x_puE B 3 3 (ρ1 := [_, _, _, _, _]) rfl (x_bin (x_var B 0 0) (x_var B 4 4) (.modI _ _ (by show 0 < s; omega))) (by omega) rfl (x_setE B S 0 0 (ρ1 := [_, _, _, _, _]) (x_bin (x_var B 0 0) (x_var B 4 4) (.divI _ _ (by show 0 < s ∧ s < 1073741824; omega))) rfl (xb_end (by (repeat' (first | exact WkL.nil | apply WkL.cons)) <;> (first | exact Wk.same _ | exact Wk.no _)))))
  rw [show (digV m c ss).map D.int = ((ss.map D.int).foldl (digF (m || small c)) (c, [])).2 by rw [digF_fold]; rfl]
  exact x_retOwn B 3 3
theorem ok_law_whole (T : DefAt K mg "_law_whole" s_law_whole ["_law_found"]) (m_isinstance : mg "isinstance" = none) (m_int : mg "int" = none) (m_bool : mg "bool" = none) : FnC P w K mg base "_law_whole" 1 1 phi_law_whole := by
  refine def_ok T sc_law_whole (nk := nk_law_whole) rfl (by decide +kernel) rfl fun X W ds B S hl nb => ?_
  obtain ⟨d, rfl, hb⟩ := inv_V nb
  split at hb
  · exact ⟨_, x_ret (xe_andV (x_isi B 1 2 m_isinstance (x_var B 0 0) (x_cls B 2 m_int boot_int) (.ty _) (by first | exact .int _ | exact .bl _ | exact .str _ | exact .tup _ | exact .lst _ | exact .non | exact .dct _ _) kit_is) fun hq0 => (xe_one (xe_notV (x_isi B 1 3 m_isinstance (x_var B 0 0) (x_cls B 3 m_bool boot_bool) (.ty _) (by first | exact .int _ | exact .bl _ | exact .str _ | exact .tup _ | exact .lst _ | exact .non | exact .dct _ _) kit_is)))), .ret _⟩
  · exact ⟨_, x_ret (xe_andV (x_isi B 1 2 m_isinstance (x_var B 0 0) (x_cls B 2 m_int boot_int) (.ty _) (by first | exact .int _ | exact .bl _ | exact .str _ | exact .tup _ | exact .lst _ | exact .non | exact .dct _ _) kit_is) fun hq0 => (xe_one (xe_notV (x_isi B 1 3 m_isinstance (x_var B 0 0) (x_cls B 3 m_bool boot_bool) (.ty _) (by first | exact .int _ | exact .bl _ | exact .str _ | exact .tup _ | exact .lst _ | exact .non | exact .dct _ _) kit_is)))), .ret _⟩
  · exact ⟨_, x_ret (xe_andV (x_isi B 1 2 m_isinstance (x_var B 0 0) (x_cls B 2 m_int boot_int) (.ty _) (by first | exact .int _ | exact .bl _ | exact .str _ | exact .tup _ | exact .lst _ | exact .non | exact .dct _ _) kit_is) fun hq0 => (xe_one (xe_notV (x_isi B 1 3 m_isinstance (x_var B 0 0) (x_cls B 3 m_bool boot_bool) (.ty _) (by first | exact .int _ | exact .bl _ | exact .str _ | exact .tup _ | exact .lst _ | exact .non | exact .dct _ _) kit_is)))), .ret _⟩
  · exact ⟨_, x_ret (xe_andV (x_isi B 1 2 m_isinstance (x_var B 0 0) (x_cls B 2 m_int boot_int) (.ty _) (by first | exact .int _ | exact .bl _ | exact .str _ | exact .tup _ | exact .lst _ | exact .non | exact .dct _ _) kit_is) fun hq0 => (xe_one (xe_notV (x_isi B 1 3 m_isinstance (x_var B 0 0) (x_cls B 3 m_bool boot_bool) (.ty _) (by first | exact .int _ | exact .bl _ | exact .str _ | exact .tup _ | exact .lst _ | exact .non | exact .dct _ _) kit_is)))), .ret _⟩
  · exact ⟨_, x_ret (xe_andV (x_isi B 1 2 m_isinstance (x_var B 0 0) (x_cls B 2 m_int boot_int) (.ty _) (by first | exact .int _ | exact .bl _ | exact .str _ | exact .tup _ | exact .lst _ | exact .non | exact .dct _ _) kit_is) fun hq0 => (xe_one (xe_notV (x_isi B 1 3 m_isinstance (x_var B 0 0) (x_cls B 3 m_bool boot_bool) (.ty _) (by first | exact .int _ | exact .bl _ | exact .str _ | exact .tup _ | exact .lst _ | exact .non | exact .dct _ _) kit_is)))), .ret _⟩
  · exact ⟨_, x_ret (xe_andV (x_isi B 1 2 m_isinstance (x_var B 0 0) (x_cls B 2 m_int boot_int) (.ty _) (by first | exact .int _ | exact .bl _ | exact .str _ | exact .tup _ | exact .lst _ | exact .non | exact .dct _ _) kit_is) fun hq0 => (xe_one (xe_notV (x_isi B 1 3 m_isinstance (x_var B 0 0) (x_cls B 3 m_bool boot_bool) (.ty _) (by first | exact .int _ | exact .bl _ | exact .str _ | exact .tup _ | exact .lst _ | exact .non | exact .dct _ _) kit_is)))), .ret _⟩
  · exact absurd rfl hb
theorem ok_law_bounds (T : DefAt K mg "_law_bounds" s_law_bounds ["_law_which", "_law_one", "_law_other"]) : FnC P w K mg base "_law_bounds" 1 3 phi_law_bounds := by
  refine def_ok T sc_law_bounds (nk := nk_law_bounds) rfl (by decide +kernel) rfl fun X W ds B S hl nb => ?_
  obtain ⟨w, o, t, rfl, hb⟩ := inv_III nb
  have hc := if_ok hb
  obtain ⟨w, rfl⟩ : ∃ k : Nat, w = k := ⟨w.toNat, by omega⟩
  obtain ⟨o, rfl⟩ : ∃ k : Nat, o = k := ⟨o.toNat, by omega⟩
  obtain ⟨t, rfl⟩ : ∃ k : Nat, t = k := ⟨t.toNat, by omega⟩
  have ho : o < 64 := by omega
  refine ⟨.ret (.tup [.int ((boundL w o t).1 : Nat), .int ((boundL w o t).2 : Nat)]), ?_, by
    rw [bounds_val ho]
    exact .ret _⟩
  refine (x_setOE B S 3 3 (ρ1 := [_, _, _, _]) (xo_lst (xa_cons (xe_tup (xa_cons xe_int (xa_cons xe_int xa_nil))) (xa_cons (xe_tup (xa_cons xe_int (xa_cons xe_int xa_nil))) (xa_cons (xe_tup (xa_cons xe_int (xa_cons xe_int xa_nil))) (xa_cons (xe_tup (xa_cons xe_int (xa_cons xe_int xa_nil))) (xa_cons (xe_tup (xa_cons xe_int (xa_cons xe_int xa_nil))) (xa_cons (xe_tup (xa_cons xe_int (xa_cons xe_int xa_nil))) xa_nil))))))) rfl ?_)
  refine xb_freezeE (ρ1 := [_, _, _, _]) 3 rfl rfl ?_
  refine xb_if (xt_cmpv (x_var B 0 0) xe_int (.lt _ _)) (fun h => ⟨x_ret (x_ix (x_var B 3 3) (x_var B 0 0) (.lst _ _ _ ?ix)), trivial⟩) fun h => (x_ret (xe_tup (xa_cons (x_var B 1 1) (xa_cons (x_bin (x_var B 1 1) (x_bin (x_var B 2 2) (x_bin xe_int (x_var B 1 1) (.subI _ _)) (.modI _ _ (by omega))) (by first | exact .addI _ _ | exact .catS _ _ (by first | assumption | omega | decide))) xa_nil)))).is ?_
  case ix =>
    have hw : w < 6 := by
      simp only [decide_eq_true_eq] at h
      omega
    have : w = 0 ∨ w = 1 ∨ w = 2 ∨ w = 3 ∨ w = 4 ∨ w = 5 := by omega
    rcases this with rfl | rfl | rfl | rfl | rfl | rfl <;> rfl
  have hw : ¬ w < 6 := by
    simp only [decide_eq_false_iff_not] at h
    omega
  unfold boundL
  rw [if_neg hw]
  show Out.ret (.tup [.int (o : Nat), .int ((o : Int) + (t : Int) % (64 - (o : Int)))]) = Out.ret (.tup [.int (o : Nat), .int ((o + t % (64 - o) : Nat) : Int)])
  rw [show (64 - (o : Int)) = ((64 - o : Nat) : Int) by omega]
  push_cast
  rfl
theorem ok_law_item (T : DefAt K mg "_law_item" s_law_item ["_law_digits_here", "_law_low", "_law_high"]) (m_str : mg "str" = none) : FnC P w K mg base "_law_item" 1 3 phi_law_item := by
  refine def_ok T sc_law_item (nk := nk_law_item) rfl (by decide +kernel) rfl fun X W ds B S hl nb => ?_
  obtain ⟨w, o, t, f, s, lo, hi, rfl, hw, hf, hlh⟩ : ∃ w o t f s lo hi : Nat, ds = [.lst [.int (w : Nat), .int (o : Nat), .int (t : Nat), .int (f : Nat), .int (s : Nat)], .int (lo : Nat), .int (hi : Nat)] ∧ w < 6 ∧ f < 3 ∧ lo ≤ hi ∧ hi < 64 := by
    unfold phi_law_item at nb
    split at nb
    · rename_i w o t f s lo hi
      have h := if_ok nb
      refine ⟨w.toNat, o.toNat, t.toNat, f.toNat, s.toNat, lo.toNat, hi.toNat, ?_, by omega, by omega, by omega, by omega⟩
      rw [Int.toNat_of_nonneg (by omega), Int.toNat_of_nonneg (by omega), Int.toNat_of_nonneg (by omega), Int.toNat_of_nonneg (by omega), Int.toNat_of_nonneg (by omega), Int.toNat_of_nonneg (by omega), Int.toNat_of_nonneg (by omega)]
    · exact absurd rfl nb
  refine ⟨.ret (itemD w o t f s lo hi), ?_, by
    rw [drawn_item hw hf hlh]
    exact .ret _⟩
  have h1 := iA_ok (o := o) hlh.1
  have h2 := iB_ok (w := 0) (t := t) h1.2
  have h3 := iS_ok (s := s) hf
  refine (x_asg (ρ1 := [_, _, _, _, _, _, _, _, _, _, _]) (x_var B 0 0) (xg_lst B.calm (xgs_cons (x_tgt B S.fn 3 3) (xgs_cons (x_tgt B S.fn 4 4) (xgs_cons (x_tgt B S.fn 5 5) (xgs_cons (x_tgt B S.fn 6 6) (xgs_cons (x_tgt B S.fn 7 7) xgs_nil))))) rfl) ?_)
  refine (x_setE B S 8 8 (d := .int (iA o lo hi : Nat)) (ρ1 := [_, _, _, _, _, _, _, _, _, _, _]) ((x_bin (x_var B 1 1) (x_bin (x_var B 4 4) (x_bin (x_bin (x_var B 2 2) (x_var B 1 1) (.subI _ _)) xe_int (by first | exact .addI _ _ | exact .catS _ _ (by first | assumption | omega | decide))) (.modI _ _ (by omega))) (by first | exact .addI _ _ | exact .catS _ _ (by first | assumption | omega | decide))).is (congrArg D.int (mdN hlh.1))) rfl ?_)
  refine (x_setE B S 9 9 (d := .int (iB 0 t (iA o lo hi) hi : Nat)) (ρ1 := [_, _, _, _, _, _, _, _, _, _, _]) ((x_bin (x_var B 8 8) (x_bin (x_var B 5 5) (x_bin (x_bin (x_var B 2 2) (x_var B 8 8) (.subI _ _)) xe_int (by first | exact .addI _ _ | exact .catS _ _ (by first | assumption | omega | decide))) (.modI _ _ (by omega))) (by first | exact .addI _ _ | exact .catS _ _ (by first | assumption | omega | decide))).is (congrArg D.int (mdN h1.2))) rfl ?_)
  refine (x_setE B S 10 10 (d := .int (iS f s : Nat)) (ρ1 := [_, _, _, _, _, _, _, _, _, _, _]) ((x_bin xe_int (x_bin (x_var B 7 7) (x_ix (xo_lst (xa_cons xe_int (xa_cons xe_int (xa_cons xe_int xa_nil)))).dat (x_var B 6 6) (.lst _ _ _ (pick3 hf))) (.modI _ _ (far_ok hf))) (by first | exact .addI _ _ | exact .catS _ _ (by first | assumption | omega | decide))).is (congrArg D.int (by unfold iS; push_cast; rfl))) rfl ?_)
  have e0 : iB 0 t (iA o lo hi) hi = iA o lo hi + t % (hi - iA o lo hi + 1) := rfl
  refine xb_if (xt_cmpv (x_var B 3 3) xe_int (by first | exact .eqI _ _ | exact .eqS _ _ | exact .eqB _ _)) (fun h => ⟨(x_ret (xe_tup (xa_cons (x_lit [42]) (xa_cons (x_var B 1 1) (xa_cons (x_var B 2 2) (xa_cons xe_int xa_nil)))))).is ?a, trivial⟩) fun g0 => ?_
  case a =>
    have : w = 0 := by simp only [decide_eq_true_eq] at h; omega
    subst this
    rfl
  refine xb_if (xt_cmpv (x_var B 3 3) xe_int (by first | exact .eqI _ _ | exact .eqS _ _ | exact .eqB _ _)) (fun h => ⟨(x_ret (xe_tup (xa_cons (x_strI B 11 m_str (x_var B 8 8) (lgN (by omega))) (xa_cons (x_var B 8 8) (xa_cons (x_var B 8 8) (xa_cons xe_int xa_nil)))))).is ?a, trivial⟩) fun g1 => ?_
  case a =>
    have : w = 1 := by simp only [decide_eq_true_eq] at h; omega
    subst this
    rw [intL_nat]
    rfl
  refine xb_if (xt_cmpv (x_var B 3 3) xe_int (by first | exact .eqI _ _ | exact .eqS _ _ | exact .eqB _ _)) (fun h => ⟨(x_ret (xe_tup (xa_cons (x_cat (x_cat (x_strI B 11 m_str (x_var B 8 8) (lgN (by omega))) (x_lit [45]) (by rw [intL_nat]; have := num2 (n := iA o lo hi) (by omega); simp; omega)) (x_strI B 11 m_str (x_var B 9 9) (lgN (by omega))) (by rw [intL_nat, intL_nat]; have := num2 (n := iA o lo hi) (by omega); have := num2 (n := iB 0 t (iA o lo hi) hi) (by omega); simp; omega)) (xa_cons (x_var B 8 8) (xa_cons (x_var B 9 9) (xa_cons xe_int xa_nil)))))).is ?a, trivial⟩) fun g2 => ?_
  case a =>
    have : w = 2 := by simp only [decide_eq_true_eq] at h; omega
    subst this
    rw [intL_nat, intL_nat]
    rfl
  refine xb_if (xt_cmpv (x_var B 3 3) xe_int (by first | exact .eqI _ _ | exact .eqS _ _ | exact .eqB _ _)) (fun h => ⟨(x_ret (xe_tup (xa_cons (x_cat (x_lit [42, 47]) (x_strI B 11 m_str (x_var B 10 10) (lgN (by omega))) (by rw [intL_nat]; have := num2 (n := iS f s) (by omega); simp; omega)) (xa_cons (x_var B 1 1) (xa_cons (x_var B 2 2) (xa_cons (x_var B 10 10) xa_nil)))))).is ?a, trivial⟩) fun g3 => ?_
  case a =>
    have : w = 3 := by simp only [decide_eq_true_eq] at h; omega
    subst this
    rw [intL_nat]
    rfl
  refine xb_if (xt_cmpv (x_var B 3 3) xe_int (by first | exact .eqI _ _ | exact .eqS _ _ | exact .eqB _ _)) (fun h => ⟨(x_ret (xe_tup (xa_cons (x_cat (x_cat (x_strI B 11 m_str (x_var B 8 8) (lgN (by omega))) (x_lit [47]) (by rw [intL_nat]; have := num2 (n := iA o lo hi) (by omega); simp; omega)) (x_strI B 11 m_str (x_var B 10 10) (lgN (by omega))) (by rw [intL_nat, intL_nat]; have := num2 (n := iA o lo hi) (by omega); have := num2 (n := iS f s) (by omega); simp; omega)) (xa_cons (x_var B 8 8) (xa_cons (x_var B 2 2) (xa_cons (x_var B 10 10) xa_nil)))))).is ?a, trivial⟩) fun g4 => ?_
  case a =>
    have : w = 4 := by simp only [decide_eq_true_eq] at h; omega
    subst this
    rw [intL_nat, intL_nat]
    rfl
  have q1 := num2 (n := iA o lo hi) (by omega)
  have q2 := num2 (n := iB 0 t (iA o lo hi) hi) (by omega)
  have q3 := num2 (n := iS f s) (by omega)
  refine (x_ret (xe_tup (xa_cons (x_cat (x_cat (x_cat (x_cat (x_strI B 11 m_str (x_var B 8 8) (lgN (by omega))) (x_lit [45]) (by rw [intL_nat]; simp; omega)) (x_strI B 11 m_str (x_var B 9 9) (lgN (by omega))) (by rw [intL_nat, intL_nat]; simp; omega)) (x_lit [47]) (by rw [intL_nat, intL_nat]; simp; omega)) (x_strI B 11 m_str (x_var B 10 10) (lgN (by omega))) (by rw [intL_nat, intL_nat, intL_nat]; simp; omega)) (xa_cons (x_var B 8 8) (xa_cons (x_var B 9 9) (xa_cons (x_var B 10 10) xa_nil)))))).is ?_
  have : w = 5 := by simp only [decide_eq_false_iff_not] at g0 g1 g2 g3 g4; omega
  subst this
  rw [intL_nat, intL_nat, intL_nat]
  rfl
theorem ok_law_wrong (T : DefAt K mg "_law_wrong" s_law_wrong ["_law_cell", "_law_low", "_law_high"]) (m_str : mg "str" = none) (m_len : mg "len" = none) : FnC P w K mg base "_law_wrong" 1 3 phi_law_wrong := by
  refine def_ok T sc_law_wrong (nk := nk_law_wrong) rfl (by decide +kernel) rfl fun X W ds B S hl nb => ?_
  obtain ⟨c, lo, hi, rfl, hb⟩ := inv_III nb
  have hc := if_ok hb
  obtain ⟨c, rfl⟩ : ∃ k : Nat, c = k := ⟨c.toNat, by omega⟩
  obtain ⟨lo, rfl⟩ : ∃ k : Nat, lo = k := ⟨lo.toNat, by omega⟩
  obtain ⟨hi, rfl⟩ : ∃ k : Nat, hi = k := ⟨hi.toNat, by omega⟩
  have hl : lo ≤ hi ∧ hi < 64 := by omega
  refine ⟨.ret (.tx (wrongT c lo hi)), ?_, by
    rw [wrong_val hl]
    exact .ret _⟩
  have q1 : (intL (lo : Int)).length ≤ 2 := by rw [intL_nat]; exact num2 (by omega)
  have q5 : (numL lo).length ≤ 2 := num2 (by omega)
  have q2 : (intL ((hi : Int) + 1)).length ≤ 2 := by rw [show (hi : Int) + 1 = ((hi + 1 : Nat) : Int) by omega, intL_nat]; exact num2 (by omega)
  have q3 : (intL (hi : Int)).length ≤ 2 := by rw [intL_nat]; exact num2 (by omega)
  have q4 : (intL ((lo : Int) - 1)).length ≤ 2 := by
    by_cases z : lo = 0
    · subst z
      decide
    · rw [show (lo : Int) - 1 = ((lo - 1 : Nat) : Int) by omega, intL_nat]
      exact num2 (by omega)
  refine (x_setE B S 3 3 (ρ1 := [_, _, _, _, _]) (x_strI B 5 m_str (x_var B 1 1) (lgN (by omega))) rfl ?_)
  refine (x_setOE B S 4 4 (ρ1 := [_, _, _, _, _]) (xo_lst (xa_cons (x_lit []) (xa_cons (x_lit [32]) (xa_cons (x_lit [120]) (xa_cons (x_lit [42, 42]) (xa_cons (x_cat (x_lit [42]) (x_var B 3 3) (by simp; omega)) (xa_cons (x_cat (x_var B 3 3) (x_lit [45]) (by simp; omega)) (xa_cons (x_cat (x_lit [45]) (x_var B 3 3) (by simp; omega)) (xa_cons (x_lit [45, 45]) (xa_cons (x_cat (x_cat (x_var B 3 3) (x_lit [45, 45]) (by simp; omega)) (x_var B 3 3) (by simp; omega)) (xa_cons (x_cat (x_cat (x_cat (x_cat (x_var B 3 3) (x_lit [45]) (by simp; omega)) (x_var B 3 3) (by simp; omega)) (x_lit [45]) (by simp; omega)) (x_var B 3 3) (by simp; omega)) xa_nil))))))))))) rfl ?_)
  refine (x_setOE B S 4 4 (ρ1 := [_, _, _, _, _]) (x_catO (x_ownQ B 4 4) ((xo_lst (xa_cons (x_cat (x_lit [48]) (x_var B 3 3) (by simp; omega)) (xa_cons (x_cat (x_lit [48, 48]) (x_var B 3 3) (by simp; omega)) (xa_cons (x_cat (x_lit [43]) (x_var B 3 3) (by simp; omega)) (xa_cons (x_cat (x_lit [32]) (x_var B 3 3) (by simp; omega)) (xa_cons (x_cat (x_var B 3 3) (x_lit [32]) (by simp; omega)) (xa_cons (x_cat (x_var B 3 3) (x_lit [46, 48]) (by simp; omega)) (xa_cons (x_cat (x_var B 3 3) (x_lit [95, 48]) (by simp; omega)) (xa_cons (x_lit [76]) (xa_cons (x_cat (x_var B 3 3) (x_lit [45, 42]) (by simp; omega)) xa_nil))))))))))).q (by simp)) rfl ?_)
  refine (x_setOE B S 4 4 (ρ1 := [_, _, _, _, _]) (x_catO (x_ownQ B 4 4) ((xo_lst (xa_cons (x_cat (x_var B 3 3) (x_lit [47]) (by simp; omega)) (xa_cons (x_lit [47]) (xa_cons (x_lit [47, 49]) (xa_cons (x_lit [42, 47]) (xa_cons (x_lit [42, 47, 48]) (xa_cons (x_lit [42, 47, 49, 48, 48]) (xa_cons (x_lit [42, 47, 48, 49]) (xa_cons (x_lit [42, 47, 45, 49]) (xa_cons (x_lit [42, 47, 49, 47, 49]) (xa_cons (x_cat (x_var B 3 3) (x_lit [47, 49, 47]) (by simp; omega)) (xa_cons (x_lit [42, 47, 42]) (xa_cons (x_cat (x_var B 3 3) (x_lit [47, 47, 49]) (by simp; omega)) xa_nil)))))))))))))).q (by simp)) rfl ?_)
  refine (x_setOE B S 4 4 (ρ1 := [_, _, _, _, _]) (x_catO (x_ownQ B 4 4) ((xo_lst (xa_cons (x_cat (x_cat (x_var B 3 3) (x_lit [45]) (by simp; omega)) (x_strI B 5 m_str (x_bin (x_var B 2 2) xe_int (by first | exact .addI _ _ | exact .catS _ _ (by first | assumption | omega | decide))) (Mom.lgI (by omega))) (by simp; omega)) (xa_cons (x_strI B 5 m_str (x_bin (x_var B 2 2) xe_int (by first | exact .addI _ _ | exact .catS _ _ (by first | assumption | omega | decide))) (Mom.lgI (by omega))) (xa_cons (x_cat (x_strI B 5 m_str (x_bin (x_var B 2 2) xe_int (by first | exact .addI _ _ | exact .catS _ _ (by first | assumption | omega | decide))) (Mom.lgI (by omega))) (x_lit [47, 49]) (by simp; omega)) (xa_cons (x_cat (x_cat (x_var B 3 3) (x_lit [45, 48]) (by simp; omega)) (x_var B 3 3) (by simp; omega)) (xa_cons (x_cat (x_lit [42, 45]) (x_var B 3 3) (by simp; omega)) xa_nil))))))).q (by simp)) rfl ?_)
  refine (x_setOE B S 4 4 (ρ1 := [_, _, _, _, _]) (x_catO (x_ownQ B 4 4) ((xo_lst (xa_cons (x_cat (x_cat (x_strI B 5 m_str (x_var B 2 2) (Mom.lgI (by omega))) (x_lit [45]) (by simp; omega)) (x_strI B 5 m_str (x_bin (x_var B 1 1) xe_int (.subI _ _)) (Mom.lgI (by omega))) (by simp; omega)) (xa_cons (x_strI B 5 m_str (x_bin (x_var B 1 1) xe_int (.subI _ _)) (Mom.lgI (by omega))) (xa_cons (x_lit [42, 47, 49, 32]) (xa_cons (x_cat (x_cat (x_cat (x_var B 3 3) (x_lit [45]) (by simp; omega)) (x_var B 3 3) (by simp; omega)) (x_lit [47, 48]) (by simp; omega)) xa_nil)))))).q (by simp)) rfl ?_)
  refine (x_setOE B S 4 4 (ρ1 := [_, _, _, _, _]) (x_catO (x_ownQ B 4 4) ((xo_lst (xa_cons (x_repS (n := 60) (x_lit [57]) xe_int ⟨by decide, by decide, by decide⟩) (xa_cons (x_cat (x_cat (x_var B 3 3) (x_lit [59]) (by simp; omega)) (x_var B 3 3) (by simp; omega)) (xa_cons (x_cat (x_var B 3 3) (x_lit [10]) (by simp; omega)) (xa_cons (x_cat (x_lit [9]) (x_var B 3 3) (by simp; omega)) (xa_cons (x_cat (x_cat (x_cat (x_var B 3 3) (x_lit [45]) (by simp; omega)) (x_var B 3 3) (by simp; omega)) (x_lit [47]) (by simp; omega)) xa_nil))))))).q (by simp)) rfl ?_)
  have e1 : intL (lo : Int) = numL lo := intL_nat lo
  have e2 : intL (hi : Int) = numL hi := intL_nat hi
  have e3 : intL ((hi : Int) + 1) = numL (hi + 1) := by rw [show (hi : Int) + 1 = ((hi + 1 : Nat) : Int) by omega, intL_nat]
  rw [e1, e3, e2]
  have hw := wrongL_len lo hi
  have hmod : ((c : Int) % ((wrongL lo hi).length : Nat)) = ((c % (wrongL lo hi).length : Nat) : Int) := by push_cast; rfl
  refine xb_ifm (ρ1 := [.val (.int (c : Nat)), .val (.int (lo : Nat)), .val (.int (hi : Nat)), .val (.tx (numL lo)), .own (txs (wrongL lo hi))]) (xt_cmpv (x_var B 2 2) (x_var B 1 1) (.gt _ _)) (fun h => ?_) (fun h => ?_) ?_
  · have h' : lo < hi := by simp only [decide_eq_true_eq] at h; omega
    unfold wrongL gB3
    rw [if_pos h', ← e2]
    exact x_puE B 4 4 (ρ1 := [_, _, _, _, _]) rfl (x_cat (x_cat (x_strI B 5 m_str (x_var B 2 2) (Mom.lgI (by omega))) (x_lit [45]) (by simp; omega)) (x_var B 3 3) (by simp; omega)) (by simp) rfl xb_nil
  · have h' : ¬ lo < hi := by simp only [decide_eq_false_iff_not] at h; omega
    unfold wrongL gB3
    rw [if_neg h', List.append_nil]
    exact xb_nil
  refine (x_ret (x_ixQ (x_ownQ B 4 4) (x_bin (x_var B 0 0) (x_lenQ B 6 m_len (x_ownQ B 4 4)) (.modI _ _ (by rw [txs_len, hw]; split <;> decide))) (by rw [txs_len, hmod]; exact txs_ix (Nat.mod_lt _ (by rw [hw]; split <;> decide))))).is rfl
theorem ok_law_refused (T : DefAt K mg "_law_refused" s_law_refused ["_law_text", "_law_low", "_law_high", "_law_at"]) (c_read_field : FnC P w K mg base "read_field" 5 3 (phi_readF a_NoField)) (c_law_whole : FnC P w K mg base "_law_whole" 1 1 phi_law_whole) (m_isinstance : mg "isinstance" = none) (m_ValueError : mg "ValueError" = none) (x_FieldError : ExCls K mg "FieldError" a_FieldError) (x_NoField : ExCls K mg "NoField" a_NoField) (w_NoDay : mg "NoDay" = some (.ref a_NoDay)) (w_NoMoment : mg "NoMoment" = some (.ref a_NoMoment)) (w_NoRow : mg "NoRow" = some (.ref a_NoRow)) (w_NoBook : mg "NoBook" = some (.ref a_NoBook)) (w_NoClock : mg "NoClock" = some (.ref a_NoClock)) (w_NoName : mg "NoName" = some (.ref a_NoName)) (w_NoWord : mg "NoWord" = some (.ref a_NoWord)) (i_NoField : ExI P w K mg base "NoField" a_NoField "at") (cq_law_whole : FnQ P w K mg base "_law_whole" 1 1 phi_wholeQ) (f_sub : PySem.W.subIn K (.ref a_NoField) (.ref a_FieldError) = some true) (f_ve : PySem.W.kitOne K (.ref a_NoField) (.type "ValueError") = some true) (f_not : PySem.W.kitAny K (.ref a_NoField) [.ref a_NoDay, .ref a_NoMoment, .ref a_NoRow, .ref a_NoBook, .ref a_NoClock, .ref a_NoName, .ref a_NoWord] = some false) : FnC P w K mg base "_law_refused" 6 4 (phi_law_refused a_NoField) := by
  refine def_ok T sc_law_refused (nk := nk_law_refused) rfl (by decide +kernel) rfl fun X W ds B S hl nb => ?_
  obtain ⟨d, lo, hi, n, rfl, hb⟩ : ∃ (d : D) (lo hi n : Int), ds = [d, .int lo, .int hi, .int n] ∧ phi_readF a_NoField [d, .int lo, .int hi] = .exc a_NoField ["at"] [.int n] := by
    unfold phi_law_refused at nb
    split at nb
    · split at nb
      · rename_i h
        exact ⟨_, _, _, _, rfl, h⟩
      · exact absurd rfl nb
    · exact absurd rfl nb
  refine ⟨.ret (.bl true), ?_, by
    rw [refused_val hb]
    exact .ret _⟩
  refine xb_stop (xs_tryAs (ns := ["at"]) (xs := [.int n]) (oS := .ret (.bl true)) B S x_FieldError 4 6 4 (fun Y W' B S eY => x_exprX (x_callX B S c_read_field 5 (xa_cons (x_var B 0 0) (xa_cons (x_var B 1 1) (xa_cons (x_var B 2 2) xa_nil))) hb)) (PySem.W.exm_ref x_FieldError.sub x_FieldError.hd x_FieldError.ty f_sub) (fun Y a od Hh => ?_) trivial) trivial
  refine xb_ifF ((xv_or (xt_not (xt_val (h_is Hh x_NoField 4 7 4 m_isinstance (h_cls Hh 8 x_NoField.mg_) (.own _) kit_self))) fun hq0 => (xv_or1 (xt_not (xt_val (h_is Hh x_NoField 4 7 4 m_isinstance (h_bcl Hh 9 m_ValueError boot_ValueError) (.ty _) f_ve)))))).t rfl ?_
  refine xb_ifF (xt_val (h_isT Hh x_NoField (cvs := [.ref a_NoDay, .ref a_NoMoment, .ref a_NoRow, .ref a_NoBook, .ref a_NoClock, .ref a_NoName, .ref a_NoWord]) (us := [.ref a_NoDay, .ref a_NoMoment, .ref a_NoRow, .ref a_NoBook, .ref a_NoClock, .ref a_NoName, .ref a_NoWord]) 4 7 4 m_isinstance (xe_tup (xa_cons (h_cls Hh 10 w_NoDay) (xa_cons (h_cls Hh 11 w_NoMoment) (xa_cons (h_cls Hh 12 w_NoRow) (xa_cons (h_cls Hh 13 w_NoBook) (xa_cons (h_cls Hh 14 w_NoClock) (xa_cons (h_cls Hh 15 w_NoName) (xa_cons (h_cls Hh 16 w_NoWord) xa_nil)))))))) (.cons (.own _) (.cons (.own _) (.cons (.own _) (.cons (.own _) (.cons (.own _) (.cons (.own _) (.cons (.own _) .nil))))))) f_not)) rfl ?_
  exact (x_ret (xe_andV (q_call (Hh.q B) cq_law_whole 17 (xa_cons (h_at Hh i_NoField.cls i_NoField.no 4 4 0) xa_nil) rfl) fun hq0 => (xe_one (xe_cmp (h_at Hh i_NoField.cls i_NoField.no 4 4 0) (h_var Hh 3 3) (by first | exact .eqI _ _ | exact .eqS _ _ | exact .eqB _ _))))).is (by simp)
theorem ok_law_right (T : DefAt K mg "_law_right" s_law_right ["_law_script", "_law_low", "_law_high", "_law_mixed"]) (c_law_item : FnC P w K mg base "_law_item" 1 3 phi_law_item) (c_law_digits : FnC P w K mg base "_law_digits" 2 3 phi_law_digits) (c_law_cell_at : FnC P w K mg base "_law_cell_at" 1 2 phi_law_cell_at) (m_range : mg "range" = none) (m_max : mg "max" = none) (m_min : mg "min" = none) (m_len : mg "len" = none) : FnC P w K mg base "_law_right" 3 4 phi_law_right := by
  refine def_ok T sc_law_right (nk := nk_law_right) rfl (by decide +kernel) rfl fun X W ds B S hl nb => ?_
  obtain ⟨ns, lo, hi, b, rfl, hn, hl⟩ : ∃ (ns : List Int) (lo hi : Nat) (b : Bool), ds = [.lst (ns.map D.int), .int (lo : Nat), .int (hi : Nat), .bl b] ∧ ns.length ≤ 63 ∧ lo ≤ hi ∧ hi < 64 := by
    unfold phi_law_right at nb
    split at nb
    · rename_i l lo hi b
      split at nb
      rotate_left
      · exact absurd rfl nb
      rename_i hh
      obtain ⟨h1, h2, h3, h4, h5⟩ := hh
      exact ⟨l.map toInt1, lo.toNat, hi.toNat, b, by rw [← h1, Int.toNat_of_nonneg h3, Int.toNat_of_nonneg (by omega)], by rw [List.length_map]; exact h2, by omega, by omega⟩
    · exact absurd rfl nb
  refine ⟨.retO (txs (rightT ns b lo hi)), ?_, by
    rw [right_val hn hl]
    exact .fr _⟩
  refine (x_setOE B S 4 4 (ρ1 := [_, _, _, _, _, _, _]) (xo_lst xa_nil) rfl ?_)
  have hrg := rightN_le ns.length
  refine x_forE B S [5, 6] (ρ2 := [_, _, _, _, _, _, _]) (x_range2 B 7 m_range xe_int (x_max2 B 8 m_max xe_int (x_min2 B 9 m_min xe_int (x_len B 10 m_len (x_var B 0 0) (by first | exact .lst _ | exact .tup _ | exact .str _ (by first | assumption | omega | decide))))) (by omega)) rfl (fo_foldM (F := fun i : Nat => D.int (4 + (i : Nat))) (as := List.range (max 5 (min 44 ((ns.map D.int).length : Int)) - 4).toNat) (y := []) (fun ts => [.val (.lst (ns.map D.int)), .val (.int (lo : Nat)), .val (.int (hi : Nat)), .val (.bl b), .own (txs ts), .no, .no]) (rightStep ns b lo hi) (fun ts r => r.length ≤ 40 ∧ Its lo hi (40 - r.length) ts ∧ ∀ i ∈ r, i < 40) ⟨by rw [List.length_range, List.length_map]; exact hrg.2, ⟨by simp, by decide, by simp⟩, fun i hi => by
    have := List.mem_range.mp hi
    rw [List.length_map] at this
    have := hrg.2
    unfold rightN at this
    omega⟩ fun ts x r hy => ?st) ?_
  case st =>
    obtain ⟨hr, hs, hrr⟩ := hy
    have hx := hrr x List.mem_cons_self
    rw [List.length_cons] at hr hs
    refine ⟨⟨by omega, ?_, fun i hi => hrr i (List.mem_cons_of_mem _ hi)⟩, [_, _, _, _, _, _, _], (x_tgt B S.fn 5 5), ?_⟩
    · have := step_its (ns := ns) (b := b) (x := x) hl hs
      rwa [show 40 - (r.length + 1) + 1 = 40 - r.length by omega] at this
    obtain ⟨a3, a4, a5, a6, a7, e2, h3, h6, eit⟩ := itOf_ok (b := b) (c := cell ns (4 + (x : Int))) hl
    have h8 := itOf_free (b := b) (c := cell ns (4 + (x : Int))) hl
    have hsm := hs.sum
    have hnum := hs.num
    refine (x_setE B S 6 6 (ρ1 := [_, _, _, _, _, _, _]) (x_call B c_law_item 11 (xa_cons (x_callO B c_law_digits 12 (xa_cons (x_call B c_law_cell_at 13 (xa_cons (x_var B 0 0) (xa_cons (x_var B 5 5) xa_nil)) (cell_val (by omega))) (xa_cons (xo_lst (xa_cons xe_int (xa_cons xe_int (xa_cons xe_int (xa_cons xe_int (xa_cons xe_int xa_nil)))))).dat (xa_cons (x_var B 3 3) xa_nil))) (dig_is e2)).dat (xa_cons (x_var B 1 1) (xa_cons (x_var B 2 2) xa_nil))) (by exact drawn_item h3 h6 hl)) rfl ?_)
    unfold rightStep
    rw [eit] at h8 ⊢
    have hj := joinL_len 44 (ts := ts ++ [itTx a3 a4 a5 a6 a7 lo hi]) (by simp)
    rw [List.map_append, List.sum_append, List.length_append, List.map_singleton, List.sum_singleton, List.length_singleton] at hj
    have hsnoc := txs_snoc ts (itTx a3 a4 a5 a6 a7 lo hi)
    by_cases q : (TL.joinL [44] (ts ++ [itTx a3 a4 a5 a6 a7 lo hi])).length ≤ 300
    · rw [if_pos q]
      refine xb_ifm (ρ1 := [.val (.lst (ns.map D.int)), .val (.int (lo : Nat)), .val (.int (hi : Nat)), .val (.bl b), .own (txs (ts ++ [itTx a3 a4 a5 a6 a7 lo hi])), .val (.int (4 + (x : Nat))), .val (itemD a3 a4 a5 a6 a7 lo hi)]) (xt_cmpv (x_lenT B 10 m_len (x_join (x_lit [44]) ((x_catO (x_ownQ B 4 4) ((xo_lst (xa_cons (x_ix (x_var B 6 6) xe_int (.tup _ _ _ rfl)) xa_nil))).q (by rw [txs_len]; simp; omega))).q hsnoc (by rw [List.map_append, List.sum_append, List.length_append, List.map_singleton, List.sum_singleton, List.length_singleton]; simp; omega)) (by omega)) xe_int (.le _ _)) (fun h => ?_) (fun h => ?_) (xb_end (by (repeat' (first | exact WkL.nil | apply WkL.cons)) <;> (first | exact Wk.same _ | exact Wk.no _)))
      · rw [← hsnoc]
        exact x_puE B 4 4 (ρ1 := [_, _, _, _, _, _, _]) rfl (x_ix (x_var B 6 6) xe_int (.tup _ _ _ rfl)) (by rw [txs_len]; omega) rfl xb_nil
      · simp only [decide_eq_false_iff_not] at h
        omega
    · rw [if_neg q]
      refine xb_ifF (xt_cmpv (x_lenT B 10 m_len (x_join (x_lit [44]) ((x_catO (x_ownQ B 4 4) ((xo_lst (xa_cons (x_ix (x_var B 6 6) xe_int (.tup _ _ _ rfl)) xa_nil))).q (by rw [txs_len]; simp; omega))).q hsnoc (by rw [List.map_append, List.sum_append, List.length_append, List.map_singleton, List.sum_singleton, List.length_singleton]; simp; omega)) (by omega)) xe_int (.le _ _)) ?_ (xb_end (by (repeat' (first | exact WkL.nil | apply WkL.cons)) <;> (first | exact Wk.same _ | exact Wk.no _)))
      simp only [decide_eq_false_iff_not]
      omega
  have en : List.range (max 5 (min 44 ((ns.map D.int).length : Int)) - 4).toNat = List.range (rightN ns.length) := by
    rw [List.length_map]
    rfl
  rw [en]
  exact x_retOwn B 4 4
theorem ok_law_spoilt (T : DefAt K mg "_law_spoilt" s_law_spoilt ["_law_digits_here", "_law_texts", "_law_low", "_law_high"]) (c_law_wrong : FnC P w K mg base "_law_wrong" 1 3 phi_law_wrong) (m_list : mg "list" = none) (m_len : mg "len" = none) (m_min : mg "min" = none) : FnC P w K mg base "_law_spoilt" 2 4 phi_law_spoilt := by
  refine def_ok T sc_law_spoilt (nk := nk_law_spoilt) rfl (by decide +kernel) rfl fun X W ds B S hl nb => ?_
  obtain ⟨d0, d1, d2, d3, d4, lo, hi, ts, rfl, hs, ne, hl⟩ := spoilt_inv nb
  refine ⟨.ret _, ?_, by
    rw [spoilt_val hs ne hl]
    exact .ret _⟩
  have hp : 0 < ts.length := List.length_pos_iff.mpr ne
  have h40 := hs.num
  have z0 := Nat.mod_lt d0 hp
  have z3 := Nat.mod_lt d3 hp
  have hmod : ∀ d : Nat, ((d : Int) % ((ts.length : Nat) : Int)) = ((d % ts.length : Nat) : Int) := fun d => by push_cast; rfl
  have hix : ∀ (a : Nat), a < ts.length → ixN ts.length (a : Int) = some a := fun a ha => by
    unfold ixN
    rw [if_pos (by omega), if_pos (by omega)]
    rfl
  have hj := spoil_join (d0 := d0) (d1 := d1) (d2 := d2) (d3 := d3) (d4 := d4) hl ne hs.len
  have hsl := spoil_len (d0 := d0) (d1 := d1) (d2 := d2) (d3 := d3) (d4 := d4) (lo := lo) (hi := hi) (ts := ts)
  have hsf := spoil_free (d0 := d0) (d1 := d1) (d2 := d2) (d3 := d3) (d4 := d4) (ts := ts) hl fun t ht => ⟨(hs.free t ht).1, by have := (hs.free t ht).2.2; omega⟩
  have hss : ((spoilL d0 d1 d2 d3 d4 ts lo hi).map (·.length)).sum ≤ 60 * (spoilL d0 d1 d2 d3 d4 ts lo hi).length := sum_le fun t ht => (hsf t ht).2
  refine (x_setOE B S 1 1 (ρ1 := [_, _, _, _, _, _]) (x_listQ B 6 m_list ((x_var B 1 1)).q) rfl ?_)
  refine (x_setE B S 4 4 (d := .int (d0 % ts.length : Nat)) (ρ1 := [_, _, _, _, _, _]) ((x_bin (x_ix (x_var B 0 0) xe_int (.lst _ _ _ rfl)) (x_lenQ B 7 m_len (x_ownQ B 1 1)) (.modI _ _ (by rw [txs_len]; omega))).is (by rw [txs_len, hmod])) rfl ?_)
  refine (x_stE B 1 1 (ρ1 := [_, _, _, _, _, _]) rfl (x_call B c_law_wrong 8 (xa_cons (x_ix (x_var B 0 0) xe_int (.lst _ _ _ rfl)) (xa_cons (x_var B 2 2) (xa_cons (x_var B 3 3) xa_nil))) (wrong_val hl)) (x_var B 4 4) (by rw [txs_len]; exact hix _ z0) rfl ?_)
  rw [txs_set]
  refine xb_ifm (ρ1 := [.val (.lst [.int (d0 : Nat), .int (d1 : Nat), .int (d2 : Nat), .int (d3 : Nat), .int (d4 : Nat)]), .own (txs (spoilL d0 d1 d2 d3 d4 ts lo hi)), .val (.int (lo : Nat)), .val (.int (hi : Nat)), .val (.int (spoilA d0 d2 d3 ts.length : Nat)), .no]) (xt_cmpv (x_ix (x_var B 0 0) xe_int (.lst _ _ _ rfl)) xe_int (by first | exact .eqI _ _ | exact .eqS _ _ | exact .eqB _ _)) (fun h => ?_) (fun h => ?_) ?_
  · have h' : d2 = 1 := by simp only [decide_eq_true_eq] at h; omega
    unfold spoilL spoilA
    rw [if_pos h', if_pos h']
    refine (x_setE B S 5 5 (d := .int (d3 % ts.length : Nat)) (ρ1 := [_, _, _, _, _, _]) ((x_bin (x_ix (x_var B 0 0) xe_int (.lst _ _ _ rfl)) (x_lenQ B 7 m_len (x_ownQ B 1 1)) (.modI _ _ (by rw [txs_len, List.length_set]; omega))).is (by rw [txs_len, List.length_set, hmod])) rfl ?_)
    refine (x_stE B 1 1 (ρ1 := [_, _, _, _, _, _]) rfl (x_call B c_law_wrong 8 (xa_cons (x_ix (x_var B 0 0) xe_int (.lst _ _ _ rfl)) (xa_cons (x_var B 2 2) (xa_cons (x_var B 3 3) xa_nil))) (wrong_val hl)) (x_var B 5 5) (by rw [txs_len, List.length_set]; exact hix _ z3) rfl ?_)
    rw [txs_set]
    exact x_setE B S 4 4 (d := .int (min (d0 % ts.length) (d3 % ts.length) : Nat)) (ρ1 := [_, _, _, _, _, _]) ((x_min2 B 9 m_min (x_var B 4 4) (x_var B 5 5)).is (congrArg D.int (by omega))) rfl (xb_end (by (repeat' (first | exact WkL.nil | apply WkL.cons)) <;> (first | exact Wk.same _ | exact Wk.no _)))
  · have h' : ¬ d2 = 1 := by simp only [decide_eq_false_iff_not] at h; omega
    unfold spoilL spoilA
    rw [if_neg h', if_neg h']
    exact xb_end (by (repeat' (first | exact WkL.nil | apply WkL.cons)) <;> (first | exact Wk.same _ | exact Wk.no _))
  generalize spoilL d0 d1 d2 d3 d4 ts lo hi = us at *
  generalize spoilA d0 d2 d3 ts.length = a at *
  refine xb_ifm (ρ1 := [.val (.lst [.int (d0 : Nat), .int (d1 : Nat), .int (d2 : Nat), .int (d3 : Nat), .int (d4 : Nat)]), .own (txs us), .val (.int (lo : Nat)), .val (.int (hi : Nat)), .val (.int (dueA (TL.joinL [44] us) a : Nat)), .no]) (xt_cmpv (x_lenT B 7 m_len (x_join (x_lit [44]) (x_ownQ B 1 1) rfl (by simp; omega)) (by omega)) xe_int (.gt _ _)) (fun h => ?_) (fun h => ?_) ?_
  · unfold dueA
    rw [if_pos (by simp only [decide_eq_true_eq] at h; omega)]
    exact x_setE B S 4 4 (ρ1 := [_, _, _, _, _, _]) xe_int rfl xb_nil
  · unfold dueA
    rw [if_neg (by simp only [decide_eq_false_iff_not] at h; omega)]
    exact xb_nil
  exact x_ret (xe_tup (xa_cons (x_join (x_lit [44]) (x_ownQ B 1 1) rfl (by simp; omega)) (xa_cons (x_var B 4 4) xa_nil)))
theorem ok_law_many (T : DefAt K mg "_law_many" s_law_many ["_law_digits_here", "_law_low", "_law_high"]) (c_law_wrong : FnC P w K mg base "_law_wrong" 1 3 phi_law_wrong) (m_range : mg "range" = none) (m_len : mg "len" = none) (m_min : mg "min" = none) (m_str : mg "str" = none) : FnC P w K mg base "_law_many" 2 3 phi_law_many := by
  refine def_ok T sc_law_many (nk := nk_law_many) rfl (by decide +kernel) rfl fun X W ds B S hl nb => ?_
  obtain ⟨d0, d1, d2, d3, d4, d5, lo, hi, rfl, h0, h4, hl⟩ := many_inv nb
  refine ⟨.ret _, ?_, by
    rw [many_val h0 h4 hl]
    exact .ret _⟩
  have hj := manyL_join (d1 := d1) (d2 := d2) (d3 := d3) (d4 := d4) (d5 := d5) hl h0
  have hlen := manyL_len d0 d1 d2 d3 d4 d5 lo hi
  have hfr := manyL_free (d0 := d0) (d1 := d1) (d2 := d2) (d3 := d3) (d4 := d4) (d5 := d5) hl
  have hss : ((manyL d0 d1 d2 d3 d4 d5 lo hi).map (·.length)).sum ≤ 60 * (manyL d0 d1 d2 d3 d4 d5 lo hi).length := sum_le fun t ht => (hfr t ht).2
  have hp := manyP_lt (d0 := d0) (d3 := d3) h4
  have em : (((41 : Int) + (d0 : Int)) - 40) = ((1 + d0 : Nat) : Int) := by omega
  refine (x_setE B S 3 3 (d := .int (41 + d0 : Nat)) (ρ1 := [_, _, _, _, _, _, _]) ((x_bin xe_int (x_ix (x_var B 0 0) xe_int (.lst _ _ _ rfl)) (by first | exact .addI _ _ | exact .catS _ _ (by first | assumption | omega | decide))).is (by push_cast; rfl)) rfl ?_)
  have eT : ((List.range (41 + d0)).map fun k => D.tx (numL (lo + (d1 + k * d2) % (hi - lo + 1)))) = txs (manyT d0 d1 d2 lo hi) := by
    unfold txs manyT
    rw [List.map_map]
    rfl
  have hz : ∀ k : Nat, ((lo : Int) + ((d1 : Int) + (0 + (k : Int)) * (d2 : Int)) % ((hi : Int) - (lo : Int) + 1)) = ((lo + (d1 + k * d2) % (hi - lo + 1) : Nat) : Int) := fun k => by
    rw [show (hi : Int) - (lo : Int) + 1 = ((hi - lo + 1 : Nat) : Int) by omega, Int.zero_add]
    push_cast
    rfl
  have hzl : ∀ k : Nat, lo + (d1 + k * d2) % (hi - lo + 1) < 64 := fun k => by
    have := Nat.mod_lt (d1 + k * d2) (show 0 < hi - lo + 1 by omega)
    omega
  have hu := manyT_ok (d0 := d0) (d1 := d1) (d2 := d2) hl
  have hus : ((manyT d0 d1 d2 lo hi).map (·.length)).sum ≤ 2 * (manyT d0 d1 d2 lo hi).length := sum_le fun t ht => (hu t ht).2.2
  have hul := manyT_len d0 d1 d2 lo hi
  refine (x_setLcE B S 4 4 (own := [("_law_k", 6)]) (ρ2 := [_, _, _, _, _, _, _]) (ρ1 := [_, _, _, _, _, _, _]) (okb B) (x_range1 B 6 m_range (x_var B 3 3) (by omega)) (by rw [rgD_len]; omega) rfl (lc_rg (G := fun k => D.tx (numL (lo + (d1 + k * d2) % (hi - lo + 1)))) ?lc) rfl ?_)
  case lc =>
    intro k hk
    refine ⟨[_, _, _, _, _, _, _], blk_of (nkc := [(".0", .«local»), ("_law_k", .«local»), ("str", .globalImplicit), ("_law_digits_here", .free), ("_law_high", .free), ("_law_low", .free)]) rfl (by decide +kernel) B fun Y Bc => (x_tgw Bc 6 1), blk_of (nkc := [(".0", .«local»), ("_law_k", .«local»), ("str", .globalImplicit), ("_law_digits_here", .free), ("_law_high", .free), ("_law_low", .free)]) rfl (by decide +kernel) B fun Y Bc => ((x_strI Bc 2 m_str (x_bin (x_var Bc 1 5) (x_bin (x_bin (x_ix (x_var Bc 0 3) xe_int (.lst _ _ _ rfl)) (x_bin (x_var Bc 6 1) (x_ix (x_var Bc 0 3) xe_int (.lst _ _ _ rfl)) (.mulI _ _ (.inl ⟨by omega, by omega⟩))) (by first | exact .addI _ _ | exact .catS _ _ (by first | assumption | omega | decide))) (x_bin (x_bin (x_var Bc 2 4) (x_var Bc 1 5) (.subI _ _)) xe_int (by first | exact .addI _ _ | exact .catS _ _ (by first | assumption | omega | decide))) (.modI _ _ (by omega))) (by first | exact .addI _ _ | exact .catS _ _ (by first | assumption | omega | decide))) (by rw [hz]; exact lgN (by have := hzl k; omega)))).is ?_⟩
    rw [hz, intL_nat]
  rw [Int.toNat_natCast, eT]
  generalize eM : manyT d0 d1 d2 lo hi = us at *
  by_cases q3 : d3 = 0
  · have e1 : manyL d0 d1 d2 d3 d4 d5 lo hi = us := by
      unfold manyL
      rw [if_pos q3, eM]
    have e2 : manyA d0 d3 d4 = 40 := if_pos q3
    rw [e1, e2]
    exact xb_ifT (xt_cmpv (x_ix (x_var B 0 0) xe_int (.lst _ _ _ rfl)) xe_int (by first | exact .eqI _ _ | exact .eqS _ _ | exact .eqB _ _)) (by simp; omega) (x_ret (xe_tup (xa_cons (x_join (x_lit [44]) (x_ownQ B 4 4) rfl (by simp; omega)) (xa_cons xe_int xa_nil)))) trivial
  refine xb_ifF (xt_cmpv (x_ix (x_var B 0 0) xe_int (.lst _ _ _ rfl)) xe_int (by first | exact .eqI _ _ | exact .eqS _ _ | exact .eqB _ _)) (by simp; omega) ?_
  have e1 : manyL d0 d1 d2 d3 d4 d5 lo hi = us.set (manyP d0 d3 d4) (wrongT d5 lo hi) := by
    unfold manyL
    rw [if_neg q3, eM]
  have e2 : manyA d0 d3 d4 = min (manyP d0 d3 d4) 40 := if_neg q3
  rw [e1] at hj hfr hss hlen ⊢
  rw [e2]
  refine (x_setE B S 5 5 (ρ1 := [_, _, _, _, _, _, _]) (x_ix (x_var B 0 0) xe_int (.lst _ _ _ rfl)) rfl ?_)
  refine xb_ifm (ρ1 := [.val (.lst [.int (d0 : Nat), .int (d1 : Nat), .int (d2 : Nat), .int (d3 : Nat), .int (d4 : Nat), .int (d5 : Nat)]), .val (.int (lo : Nat)), .val (.int (hi : Nat)), .val (.int (41 + d0 : Nat)), .own (txs us), .val (.int (manyP d0 d3 d4 : Nat)), .no]) (xt_cmpv (x_ix (x_var B 0 0) xe_int (.lst _ _ _ rfl)) xe_int (by first | exact .eqI _ _ | exact .eqS _ _ | exact .eqB _ _)) (fun h => ?_) (fun h => ?_) ?_
  · have h' : d3 = 1 := by simp only [decide_eq_true_eq] at h; omega
    unfold manyP
    rw [if_pos h']
    exact x_setE B S 5 5 (d := .int (40 + d4 % (1 + d0) : Nat)) (ρ1 := [_, _, _, _, _, _, _]) ((x_bin xe_int (x_bin (x_ix (x_var B 0 0) xe_int (.lst _ _ _ rfl)) (x_bin (x_var B 3 3) xe_int (.subI _ _)) (.modI _ _ (by omega))) (by first | exact .addI _ _ | exact .catS _ _ (by first | assumption | omega | decide))).is (congrArg D.int (by rw [show ((41 + d0 : Nat) : Int) - 40 = ((1 + d0 : Nat) : Int) by omega]; push_cast; rfl))) rfl xb_nil
  · have h' : ¬ d3 = 1 := by simp only [decide_eq_false_iff_not] at h; omega
    unfold manyP
    rw [if_neg h']
    exact xb_nil
  generalize manyP d0 d3 d4 = a at *
  have hix : ixN us.length (a : Int) = some a := by
    unfold ixN
    rw [if_pos (by omega), if_pos (by omega)]
    rfl
  refine (x_stE B 4 4 (ρ1 := [_, _, _, _, _, _, _]) rfl (x_call B c_law_wrong 7 (xa_cons (x_ix (x_var B 0 0) xe_int (.lst _ _ _ rfl)) (xa_cons (x_var B 1 1) (xa_cons (x_var B 2 2) xa_nil))) (wrong_val hl)) (x_var B 5 5) (by rw [txs_len]; exact hix) rfl ?_)
  rw [txs_set]
  refine xb_ifF (xt_cmpv (x_lenT B 8 m_len (x_join (x_lit [44]) (x_ownQ B 4 4) rfl (by simp only [List.length_cons, List.length_nil, Nat.mul_one]; omega)) (by omega)) xe_int (.gt _ _)) (by simp only [decide_eq_false_iff_not]; omega) ?_
  exact (x_ret (xe_tup (xa_cons (x_join (x_lit [44]) (x_ownQ B 4 4) rfl (by simp only [List.length_cons, List.length_nil, Nat.mul_one]; omega)) (xa_cons (x_min2 B 9 m_min (x_var B 5 5) xe_int) xa_nil)))).is (by rw [show min ((a : Nat) : Int) 40 = ((min a 40 : Nat) : Int) by omega])
theorem ok_law {f : Addr} {fd : FuncData} (T : Fun K "law" "law" s_law f fd) (c_law_cell_at : FnC P w K mg base "_law_cell_at" 1 2 phi_law_cell_at) (c_law_digits : FnC P w K mg base "_law_digits" 2 3 phi_law_digits) (c_law_bounds : FnC P w K mg base "_law_bounds" 1 3 phi_law_bounds) (c_law_right : FnC P w K mg base "_law_right" 3 4 phi_law_right) (c_read_field : FnC P w K mg base "read_field" 5 3 (phi_readF a_NoField)) (c_law_spoilt : FnC P w K mg base "_law_spoilt" 2 4 phi_law_spoilt) (c_law_refused : FnC P w K mg base "_law_refused" 6 4 (phi_law_refused a_NoField)) (c_law_many : FnC P w K mg base "_law_many" 2 3 phi_law_many) (m_str : mg "str" = none) : FnOk P w K mg base (L2N.CX P w) 7 f fd ["_law_script"] (spD K 1 phiLaw) := by
  refine def_fn T sc_law (nk := nk_law) rfl (by decide +kernel) rfl fun X W ds B S hl nb => ?_
  obtain ⟨ns, h63, rfl⟩ := phiLaw_inv nb
  clear nb hl
  rw [phiLaw_ok h63]
  refine ⟨.ret (.bl true), ?_, .ret _⟩
  refine (x_setE B S 1 1 (ρ1 := [_, _, _, _, _, _, _, _, _, _, _, _, _, _, _, _]) (xe_cmp (x_bin (x_call B c_law_cell_at 16 (xa_cons (x_var B 0 0) (xa_cons xe_int xa_nil)) (cell_val (by omega))) xe_int (.modI _ _ (by decide))) xe_int (by first | exact .eqI _ _ | exact .eqS _ _ | exact .eqB _ _)) rfl ?_)
  generalize (decide (cell ns 0 % 2 = 1)) = b
  obtain ⟨a0, a1, a2, a3, e, h0, h1, h2, h3⟩ := b4n (digV_ok b (cell ns 0 / 2) [8, 64, 64, 6] (by decide))
  refine (x_asg (ρ1 := [_, _, _, _, _, _, _, _, _, _, _, _, _, _, _, _]) (x_callO B c_law_digits 17 (xa_cons (x_bin (x_call B c_law_cell_at 16 (xa_cons (x_var B 0 0) (xa_cons xe_int xa_nil)) (cell_val (by omega))) xe_int (.divI _ _ ⟨by decide, by decide⟩)) (xa_cons (xo_lst (xa_cons xe_int (xa_cons xe_int (xa_cons xe_int (xa_cons xe_int xa_nil))))).dat (xa_cons (x_var B 1 1) xa_nil))) (dig_is e)).dat (xg_lst B.calm (xgs_cons (x_tgt B S.fn 2 2) (xgs_cons (x_tgt B S.fn 3 3) (xgs_cons (x_tgt B S.fn 4 4) (xgs_cons (x_tgt B S.fn 5 5) xgs_nil)))) rfl) ?_)
  have hbd := bound_ok (w := a0) (o := a1) (t := a2) (by omega)
  refine (x_asg (ρ1 := [_, _, _, _, _, _, _, _, _, _, _, _, _, _, _, _]) (x_call B c_law_bounds 18 (xa_cons (x_var B 2 2) (xa_cons (x_var B 3 3) (xa_cons (x_var B 4 4) xa_nil))) (bounds_val (by omega))) (xg_tup B.calm (xgs_cons (x_tgt B S.fn 6 6) (xgs_cons (x_tgt B S.fn 7 7) xgs_nil)) rfl) ?_)
  generalize (boundL a0 a1 a2).1 = lo at *
  generalize (boundL a0 a1 a2).2 = hi at *
  refine (x_setOE B S 8 8 (ρ1 := [_, _, _, _, _, _, _, _, _, _, _, _, _, _, _, _]) (x_callO B c_law_right 19 (xa_cons (x_var B 0 0) (xa_cons (x_var B 6 6) (xa_cons (x_var B 7 7) (xa_cons (x_var B 1 1) xa_nil)))) (right_val h63 hbd)) rfl ?_)
  have hs := right_its (ns := ns) (b := b) hbd
  have ne := right_ne (ns := ns) (b := b) hbd
  generalize rightT ns b lo hi = ts at *
  refine xb_freezeE (ρ1 := [_, _, _, _, _, _, _, _, _, _, _, _, _, _, _, _]) 8 rfl rfl ?_
  have hsm := hs.sum
  have hnum := hs.num
  have g1 : phi_readF a_NoField [.tx (TL.joinL [44] ts), .int (lo : Nat), .int (hi : Nat)] = .val (.int (fieldN (TL.joinL [44] ts) lo hi : Nat)) := (readF_tx hbd (by have := hs.len; omega)).trans (fieldR_good (hs.good (Nat.le_refl _) ne))
  refine (x_setE B S 9 9 (ρ1 := [_, _, _, _, _, _, _, _, _, _, _, _, _, _, _, _]) (x_call B c_read_field 20 (xa_cons (x_join (x_lit [44]) ((x_var B 8 8)).q rfl (by simp; omega)) (xa_cons (x_var B 6 6) (xa_cons (x_var B 7 7) xa_nil))) g1) rfl ?_)
  obtain ⟨d0, d1, d2, d3, d4, e2, -, -, -, -, -⟩ := b5n (digV_ok b (cell ns 1) [40, 46, 2, 40, 46] (by decide))
  refine (x_setE B S 10 10 (ρ1 := [_, _, _, _, _, _, _, _, _, _, _, _, _, _, _, _]) (x_callO B c_law_digits 17 (xa_cons (x_call B c_law_cell_at 16 (xa_cons (x_var B 0 0) (xa_cons xe_int xa_nil)) (cell_val (by omega))) (xa_cons (xo_lst (xa_cons xe_int (xa_cons xe_int (xa_cons xe_int (xa_cons xe_int (xa_cons xe_int xa_nil)))))).dat (xa_cons (x_var B 1 1) xa_nil))) (dig_is e2)).dat rfl ?_)
  refine (x_asg (ρ1 := [_, _, _, _, _, _, _, _, _, _, _, _, _, _, _, _]) (x_call B c_law_spoilt 21 (xa_cons (x_var B 10 10) (xa_cons (x_var B 8 8) (xa_cons (x_var B 6 6) (xa_cons (x_var B 7 7) xa_nil)))) (spoilt_val hs ne hbd)) (xg_tup B.calm (xgs_cons (x_tgt B S.fn 11 11) (xgs_cons (x_tgt B S.fn 12 12) xgs_nil)) rfl) ?_)
  have sp := due_refused (C := a_NoField) (ts := spoilL d0 d1 d2 d3 d4 ts lo hi) hbd (List.length_pos_iff.mp (by rw [spoil_len]; exact List.length_pos_iff.mpr ne)) (fun t ht => (spoil_free hbd (fun t ht => ⟨(hs.free t ht).1, by have := (hs.free t ht).2.2; omega⟩) t ht).1) (by have := spoil_join (d0 := d0) (d1 := d1) (d2 := d2) (d3 := d3) (d4 := d4) hbd ne hs.len; omega) (spoil_at hbd (fun t ht => (hs.free t ht).2.1) ne hnum)
  refine xb_ifF (xt_not (xt_val (x_call B c_law_refused 22 (xa_cons (x_var B 11 11) (xa_cons (x_var B 6 6) (xa_cons (x_var B 7 7) (xa_cons (x_var B 12 12) xa_nil)))) (refused_val sp)))) rfl ?_
  obtain ⟨m0, m1, m2, m3, m4, m5, e3, k0, -, -, -, k4, -⟩ := b6n (digV_ok b (cell ns 2) [12, 64, 64, 3, 40, 46] (by decide))
  refine (x_setE B S 10 10 (ρ1 := [_, _, _, _, _, _, _, _, _, _, _, _, _, _, _, _]) (x_callO B c_law_digits 17 (xa_cons (x_call B c_law_cell_at 16 (xa_cons (x_var B 0 0) (xa_cons xe_int xa_nil)) (cell_val (by omega))) (xa_cons (xo_lst (xa_cons xe_int (xa_cons xe_int (xa_cons xe_int (xa_cons xe_int (xa_cons xe_int (xa_cons xe_int xa_nil))))))).dat (xa_cons (x_var B 1 1) xa_nil))) (dig_is e3)).dat rfl ?_)
  refine (x_asg (ρ1 := [_, _, _, _, _, _, _, _, _, _, _, _, _, _, _, _]) (x_call B c_law_many 23 (xa_cons (x_var B 10 10) (xa_cons (x_var B 6 6) (xa_cons (x_var B 7 7) xa_nil))) (many_val (by omega) (by omega) hbd)) (xg_tup B.calm (xgs_cons (x_tgt B S.fn 11 11) (xgs_cons (x_tgt B S.fn 12 12) xgs_nil)) rfl) ?_)
  refine xb_ifF (xt_not (xt_val (x_call B c_law_refused 22 (xa_cons (x_var B 11 11) (xa_cons (x_var B 6 6) (xa_cons (x_var B 7 7) (xa_cons (x_var B 12 12) xa_nil)))) (refused_val (many_refused hbd (by omega) (by omega)))))) rfl ?_
  have hi2 := num2 (n := hi) (by omega)
  have hiN : 44 ∉ numL hi := numL_free (.inl (by decide))
  have i1 : itemN (numL hi) lo hi = 2 ^ hi := (item_one (free47 _) (span_num (by omega) hbd.1 (Nat.le_refl _))).trans (mask_one hi)
  have hpos : (2 ^ hi : Nat) ≠ 0 := Nat.pos_iff_ne_zero.mp (Nat.two_pow_pos hi)
  have hf40 : ∀ t ∈ List.replicate 40 (numL hi), t = numL hi := fun t ht => List.eq_of_mem_replicate ht
  have ne40 : List.replicate 40 (numL hi) ≠ [] := by simp
  have l40 := join_rep_len 40 (numL hi) (by decide)
  have g40 : goodF (TL.joinL [44] (List.replicate 40 (numL hi))) lo hi := good_join ne40 (fun t ht => by rw [hf40 t ht]; exact hiN) (by omega) (by rw [List.length_replicate]; exact Nat.le_refl _) (fun t ht => by rw [hf40 t ht, i1]; exact hpos)
  have v40 : phi_readF a_NoField [.tx (TL.joinL [44] (List.replicate 40 (numL hi))), .int (lo : Nat), .int (hi : Nat)] = .val (.int (2 ^ hi : Nat)) := by
    rw [readF_tx hbd (by have := g40.1; omega), fieldR_good g40, field_join ne40 (fun t ht => by rw [hf40 t ht]; exact hiN), orN_rep, i1]
  have e41 : TL.joinL [44] (List.replicate 40 (numL hi)) ++ [44, 42] = TL.joinL [44] (List.replicate 40 (numL hi) ++ [[42]]) := by
    rw [joinL_app [44] ne40 (by simp)]
    simp [TL.joinL]
  have v41 : phi_readF a_NoField [.tx (TL.joinL [44] (List.replicate 40 (numL hi)) ++ [44, 42]), .int (lo : Nat), .int (hi : Nat)] = .exc a_NoField ["at"] [.int ((40 : Nat) : Int)] := by
    have hf41 : ∀ t ∈ List.replicate 40 (numL hi) ++ [[42]], 44 ∉ t := fun t ht => by
      rcases List.mem_append.mp ht with ht | ht
      · rw [hf40 t ht]
        exact hiN
      · rw [List.mem_singleton.mp ht]
        decide
    rw [readF_tx hbd (by rw [List.length_append]; simp only [List.length_cons, List.length_nil]; omega)]
    have hz : (TL.joinL [44] (List.replicate 40 (numL hi)) ++ [44, 42]).length ≤ 300 := by
      rw [List.length_append]
      simp only [List.length_cons, List.length_nil]
      omega
    rw [e41] at hz ⊢
    have hit := items_join (by simp) hf41
    refine fieldR_many hz ?_ (by rw [hit, List.length_append, List.length_replicate]; decide)
    rw [hit]
    refine badAt_none fun j y hj hy => ?_
    rw [List.getElem?_append_left (by rw [List.length_replicate]; exact hj)] at hy
    rw [hf40 y (List.mem_of_getElem? hy), i1]
    exact hpos
  have s40 : ((List.replicate 40 (numL hi)).map (·.length)).sum ≤ 2 * (List.replicate 40 (numL hi)).length := sum_le fun t ht => by rw [hf40 t ht]; exact hi2
  rw [List.length_replicate] at s40
  refine (x_setE B S 13 13 (d := .tx (TL.joinL [44] (List.replicate 40 (numL hi)))) (ρ1 := [_, _, _, _, _, _, _, _, _, _, _, _, _, _, _, _]) (x_join (x_lit [44]) ((x_repL (xo_lst (xa_cons (x_strI B 24 m_str (x_var B 7 7) (lgN (by omega))) xa_nil)) xe_int ⟨by decide, by decide, Nat.le_of_ble_eq_true rfl⟩)).q (show _ = txs (List.replicate 40 (numL hi)) from by rw [← intL_nat]; exact rep_txs 40 _) (by rw [List.length_replicate]; simp only [List.length_cons, List.length_nil]; omega)) rfl ?_)
  refine xb_ifF ((xv_or (xt_cmpv (x_call B c_read_field 20 (xa_cons (x_var B 13 13) (xa_cons (x_var B 6 6) (xa_cons (x_var B 7 7) xa_nil))) v40) (x_bin xe_int (x_var B 7 7) (.shlI _ _ ⟨by omega, by omega, by omega⟩)) (by first | exact .neI _ _ | exact .neS _ _ | exact .neB _ _)) fun hq0 => (xv_or1 (xt_not (xt_val (x_call B c_law_refused 22 (xa_cons (x_cat (x_var B 13 13) (x_lit [44, 42]) (by simp only [List.length_cons, List.length_nil]; omega)) (xa_cons (x_var B 6 6) (xa_cons (x_var B 7 7) (xa_cons xe_int xa_nil)))) (refused_val v41))))))).t (by rw [shl_nat]; simp) ?_
  have len33 := T33_len
  refine (x_setE B S 14 14 (d := .tx T33) (ρ1 := [_, _, _, _, _, _, _, _, _, _, _, _, _, _, _, _]) ((x_join (x_lit [44]) ((x_repL (xo_lst (xa_cons (x_lit [49, 48, 45, 53, 57, 47, 49, 48]) xa_nil)) xe_int ⟨by decide, by decide, by decide⟩)).q (by exact rep_txs 33 [49, 48, 45, 53, 57, 47, 49, 48]) (by exact Nat.le_of_ble_eq_true rfl)).is rfl) rfl ?_)
  have b059 : (0 : Nat) ≤ 59 ∧ 59 < 64 := by decide
  have v1 : phi_readF a_NoField [.tx (T33 ++ [44, 48, 45, 57]), .int ((0 : Nat) : Int), .int ((59 : Nat) : Int)] = .val (.int (fieldN (T33 ++ [44, 48, 45, 57]) 0 59 : Nat)) := (readF_tx b059 (by rw [List.length_append, len33]; decide)).trans (fieldR_good (goodB_ok T33_good))
  have v2 : phi_readF a_NoField [.tx [42, 47, 49, 48, 44, 48, 45, 57], .int ((0 : Nat) : Int), .int ((59 : Nat) : Int)] = .val (.int (fieldN [42, 47, 49, 48, 44, 48, 45, 57] 0 59 : Nat)) := (readF_tx b059 (by decide)).trans (fieldR_good (goodB_ok T2_good))
  refine xb_ifF (xt_cmpv (x_call B c_read_field 20 (xa_cons (x_cat (x_var B 14 14) (x_lit [44, 48, 45, 57]) (by rw [len33]; decide)) (xa_cons xe_int (xa_cons xe_int xa_nil))) v1) (x_call B c_read_field 20 (xa_cons (x_lit [42, 47, 49, 48, 44, 48, 45, 57]) (xa_cons xe_int (xa_cons xe_int xa_nil))) v2) (by first | exact .neI _ _ | exact .neS _ _ | exact .neB _ _)) (by rw [T33_field]; simp) ?_
  have vl : ∀ {l : List Nat}, 300 < l.length → l.length ≤ 1000 → phi_readF a_NoField [.tx l, .int ((0 : Nat) : Int), .int ((59 : Nat) : Int)] = .exc a_NoField ["at"] [.int ((0 : Nat) : Int)] := fun h1 h2 => (readF_tx b059 h2).trans (fieldR_long h1)
  refine xb_ifF ((xv_or (xt_not (xt_val (x_call B c_law_refused 22 (xa_cons (x_cat (x_var B 14 14) (x_lit [44, 48, 45, 49, 48]) (by rw [len33]; decide)) (xa_cons xe_int (xa_cons xe_int (xa_cons xe_int xa_nil)))) (refused_val (vl (by rw [List.length_append, len33]; decide) (by rw [List.length_append, len33]; decide)))))) fun hq0 => (xv_or1 (xt_not (xt_val (x_call B c_law_refused 22 (xa_cons (x_cat (x_var B 14 14) (x_lit [44, 48, 45, 57, 120]) (by rw [len33]; decide)) (xa_cons xe_int (xa_cons xe_int (xa_cons xe_int xa_nil)))) (refused_val (vl (by rw [List.length_append, len33]; decide) (by rw [List.length_append, len33]; decide))))))))).t rfl ?_
  refine (x_setOE B S 15 15 (ρ1 := [_, _, _, _, _, _, _, _, _, _, _, _, _, _, _, _]) (x_repL (xo_lst (xa_cons (x_lit [49, 48]) xa_nil)) xe_int ⟨by decide, by decide, by decide⟩) rfl ?_)
  have e101 := rep_txs 101 [49, 48]
  have l101 := join_rep_len 101 [49, 48] (by decide)
  have e103 : ([D.tx [49], .tx [120]] : List D) ++ (List.replicate 101 [D.tx [49, 48]]).flatten = txs ([49] :: [120] :: List.replicate 101 [49, 48]) := by
    rw [e101]
    rfl
  refine xb_ifF ((xv_or (xt_not (xt_val (x_call B c_law_refused 22 (xa_cons (x_join (x_lit [44]) (x_ownQ B 15 15) (by exact e101) (by exact Nat.le_of_ble_eq_true rfl)) (xa_cons xe_int (xa_cons xe_int (xa_cons xe_int xa_nil)))) (refused_val (vl (by exact Nat.le_of_ble_eq_true rfl) (by exact Nat.le_of_ble_eq_true rfl)))))) fun hq0 => (xv_or1 (xt_not (xt_val (x_call B c_law_refused 22 (xa_cons (x_join (x_lit [44]) ((x_catO ((xo_lst (xa_cons (x_lit [49]) (xa_cons (x_lit [120]) xa_nil)))).q (x_ownQ B 15 15) (by exact Nat.le_of_ble_eq_true rfl))).q (by exact e103) (by exact Nat.le_of_ble_eq_true rfl)) (xa_cons xe_int (xa_cons xe_int (xa_cons xe_int xa_nil)))) (refused_val (vl (by exact Nat.le_of_ble_eq_true rfl) (by exact Nat.le_of_ble_eq_true rfl))))))))).t rfl ?_
  refine xb_ifF (xt_not (xt_val (x_call B c_law_refused 22 (xa_cons (x_ix (xo_lst (xa_cons xe_non (xa_cons xe_int (xa_cons xe_bl (xa_cons (xo_lst (xa_cons (x_lit [42]) xa_nil)).dat (xa_cons (xe_tup (xa_cons (x_lit [42]) xa_nil)) (xa_cons xe_dct0 xa_nil))))))).dat (x_var B 5 5) (.lst _ _ _ (oddsF_ix (k := a3) (by omega)))) (xa_cons (x_var B 6 6) (xa_cons (x_var B 7 7) (xa_cons xe_int xa_nil)))) (refused_val (readF_odd hbd (oddsF_ok (by omega))))))) rfl ?_
  exact (x_ret (xe_cmp (x_call B c_read_field 20 (xa_cons (x_join (x_lit [44]) ((x_var B 8 8)).q rfl (by simp; omega)) (xa_cons (x_var B 6 6) (xa_cons (x_var B 7 7) xa_nil))) g1) (x_var B 9 9) (by first | exact .eqI _ _ | exact .eqS _ _ | exact .eqB _ _))).is (by simp)
end
set_option maxHeartbeats 2000000 in
theorem all_mk {P : Program} {w : World} {K : PySem.W.Frag} {h : Heap} {mg : Str → Option Value} {fa : Addr} (X : K.In h) (G : h.Ns mainGlobals mg) (hfa : mg "law" = some (.ref fa))
    {f0 : Addr} {oc0 kV0 dc0 pm0 cd0 ct0 : Value} {od0 an0 : Option Addr} {sl0 : Array (Option Value)} (a0 : PySem.W.nsIn K mainGlobals "mask_of" = some (some (.ref f0))) (l0 : K.lookup f0 = some ⟨oc0, od0, .func (PySem.W.fnOf "mask_of" "mask_of" (defArgs s_mask_of) (defBody s_mask_of) (defScope s_mask_of) .none kV0 dc0 pm0 an0 cd0 ct0), sl0⟩) (c0 : PySem.W.codeIn K cd0 "mask_of" = true) (k0 : PySem.W.keepIn K (.ref f0) = true)
    {f1 : Addr} {oc1 kV1 dc1 pm1 cd1 ct1 : Value} {od1 an1 : Option Addr} {sl1 : Array (Option Value)} (a1 : PySem.W.nsIn K mainGlobals "only_figures" = some (some (.ref f1))) (l1 : K.lookup f1 = some ⟨oc1, od1, .func (PySem.W.fnOf "only_figures" "only_figures" (defArgs s_only_figures) (defBody s_only_figures) (defScope s_only_figures) .none kV1 dc1 pm1 an1 cd1 ct1), sl1⟩) (c1 : PySem.W.codeIn K cd1 "only_figures" = true) (k1 : PySem.W.keepIn K (.ref f1) = true)
    {f2 : Addr} {oc2 kV2 dc2 pm2 cd2 ct2 : Value} {od2 an2 : Option Addr} {sl2 : Array (Option Value)} (a2 : PySem.W.nsIn K mainGlobals "number_in" = some (some (.ref f2))) (l2 : K.lookup f2 = some ⟨oc2, od2, .func (PySem.W.fnOf "number_in" "number_in" (defArgs s_number_in) (defBody s_number_in) (defScope s_number_in) .none kV2 dc2 pm2 an2 cd2 ct2), sl2⟩) (c2 : PySem.W.codeIn K cd2 "number_in" = true) (k2 : PySem.W.keepIn K (.ref f2) = true)
    {f3 : Addr} {oc3 kV3 dc3 pm3 cd3 ct3 : Value} {od3 an3 : Option Addr} {sl3 : Array (Option Value)} (a3 : PySem.W.nsIn K mainGlobals "span_in" = some (some (.ref f3))) (l3 : K.lookup f3 = some ⟨oc3, od3, .func (PySem.W.fnOf "span_in" "span_in" (defArgs s_span_in) (defBody s_span_in) (defScope s_span_in) .none kV3 dc3 pm3 an3 cd3 ct3), sl3⟩) (c3 : PySem.W.codeIn K cd3 "span_in" = true) (k3 : PySem.W.keepIn K (.ref f3) = true)
    {f4 : Addr} {oc4 kV4 dc4 pm4 cd4 ct4 : Value} {od4 an4 : Option Addr} {sl4 : Array (Option Value)} (a4 : PySem.W.nsIn K mainGlobals "item_mask" = some (some (.ref f4))) (l4 : K.lookup f4 = some ⟨oc4, od4, .func (PySem.W.fnOf "item_mask" "item_mask" (defArgs s_item_mask) (defBody s_item_mask) (defScope s_item_mask) .none kV4 dc4 pm4 an4 cd4 ct4), sl4⟩) (c4 : PySem.W.codeIn K cd4 "item_mask" = true) (k4 : PySem.W.keepIn K (.ref f4) = true)
    {f5 : Addr} {oc5 kV5 dc5 pm5 cd5 ct5 : Value} {od5 an5 : Option Addr} {sl5 : Array (Option Value)} (a5 : PySem.W.nsIn K mainGlobals "read_field" = some (some (.ref f5))) (l5 : K.lookup f5 = some ⟨oc5, od5, .func (PySem.W.fnOf "read_field" "read_field" (defArgs s_read_field) (defBody s_read_field) (defScope s_read_field) .none kV5 dc5 pm5 an5 cd5 ct5), sl5⟩) (c5 : PySem.W.codeIn K cd5 "read_field" = true) (k5 : PySem.W.keepIn K (.ref f5) = true)
    {f6 : Addr} {oc6 kV6 dc6 pm6 cd6 ct6 : Value} {od6 an6 : Option Addr} {sl6 : Array (Option Value)} (a6 : PySem.W.nsIn K mainGlobals "_law_cell_at" = some (some (.ref f6))) (l6 : K.lookup f6 = some ⟨oc6, od6, .func (PySem.W.fnOf "_law_cell_at" "_law_cell_at" (defArgs s_law_cell_at) (defBody s_law_cell_at) (defScope s_law_cell_at) .none kV6 dc6 pm6 an6 cd6 ct6), sl6⟩) (c6 : PySem.W.codeIn K cd6 "_law_cell_at" = true) (k6 : PySem.W.keepIn K (.ref f6) = true)
    {f7 : Addr} {oc7 kV7 dc7 pm7 cd7 ct7 : Value} {od7 an7 : Option Addr} {sl7 : Array (Option Value)} (a7 : PySem.W.nsIn K mainGlobals "_law_stir" = some (some (.ref f7))) (l7 : K.lookup f7 = some ⟨oc7, od7, .func (PySem.W.fnOf "_law_stir" "_law_stir" (defArgs s_law_stir) (defBody s_law_stir) (defScope s_law_stir) .none kV7 dc7 pm7 an7 cd7 ct7), sl7⟩) (c7 : PySem.W.codeIn K cd7 "_law_stir" = true) (k7 : PySem.W.keepIn K (.ref f7) = true)
    {f8 : Addr} {oc8 kV8 dc8 pm8 cd8 ct8 : Value} {od8 an8 : Option Addr} {sl8 : Array (Option Value)} (a8 : PySem.W.nsIn K mainGlobals "_law_digits" = some (some (.ref f8))) (l8 : K.lookup f8 = some ⟨oc8, od8, .func (PySem.W.fnOf "_law_digits" "_law_digits" (defArgs s_law_digits) (defBody s_law_digits) (defScope s_law_digits) .none kV8 dc8 pm8 an8 cd8 ct8), sl8⟩) (c8 : PySem.W.codeIn K cd8 "_law_digits" = true) (k8 : PySem.W.keepIn K (.ref f8) = true)
    {f9 : Addr} {oc9 kV9 dc9 pm9 cd9 ct9 : Value} {od9 an9 : Option Addr} {sl9 : Array (Option Value)} (a9 : PySem.W.nsIn K mainGlobals "_law_whole" = some (some (.ref f9))) (l9 : K.lookup f9 = some ⟨oc9, od9, .func (PySem.W.fnOf "_law_whole" "_law_whole" (defArgs s_law_whole) (defBody s_law_whole) (defScope s_law_whole) .none kV9 dc9 pm9 an9 cd9 ct9), sl9⟩) (c9 : PySem.W.codeIn K cd9 "_law_whole" = true) (k9 : PySem.W.keepIn K (.ref f9) = true)
    {f10 : Addr} {oc10 kV10 dc10 pm10 cd10 ct10 : Value} {od10 an10 : Option Addr} {sl10 : Array (Option Value)} (a10 : PySem.W.nsIn K mainGlobals "_law_bounds" = some (some (.ref f10))) (l10 : K.lookup f10 = some ⟨oc10, od10, .func (PySem.W.fnOf "_law_bounds" "_law_bounds" (defArgs s_law_bounds) (defBody s_law_bounds) (defScope s_law_bounds) .none kV10 dc10 pm10 an10 cd10 ct10), sl10⟩) (c10 : PySem.W.codeIn K cd10 "_law_bounds" = true) (k10 : PySem.W.keepIn K (.ref f10) = true)
    {f11 : Addr} {oc11 kV11 dc11 pm11 cd11 ct11 : Value} {od11 an11 : Option Addr} {sl11 : Array (Option Value)} (a11 : PySem.W.nsIn K mainGlobals "_law_item" = some (some (.ref f11))) (l11 : K.lookup f11 = some ⟨oc11, od11, .func (PySem.W.fnOf "_law_item" "_law_item" (defArgs s_law_item) (defBody s_law_item) (defScope s_law_item) .none kV11 dc11 pm11 an11 cd11 ct11), sl11⟩) (c11 : PySem.W.codeIn K cd11 "_law_item" = true) (k11 : PySem.W.keepIn K (.ref f11) = true)
    {f12 : Addr} {oc12 kV12 dc12 pm12 cd12 ct12 : Value} {od12 an12 : Option Addr} {sl12 : Array (Option Value)} (a12 : PySem.W.nsIn K mainGlobals "_law_wrong" = some (some (.ref f12))) (l12 : K.lookup f12 = some ⟨oc12, od12, .func (PySem.W.fnOf "_law_wrong" "_law_wrong" (defArgs s_law_wrong) (defBody s_law_wrong) (defScope s_law_wrong) .none kV12 dc12 pm12 an12 cd12 ct12), sl12⟩) (c12 : PySem.W.codeIn K cd12 "_law_wrong" = true) (k12 : PySem.W.keepIn K (.ref f12) = true)
    {f13 : Addr} {oc13 kV13 dc13 pm13 cd13 ct13 : Value} {od13 an13 : Option Addr} {sl13 : Array (Option Value)} (a13 : PySem.W.nsIn K mainGlobals "_law_refused" = some (some (.ref f13))) (l13 : K.lookup f13 = some ⟨oc13, od13, .func (PySem.W.fnOf "_law_refused" "_law_refused" (defArgs s_law_refused) (defBody s_law_refused) (defScope s_law_refused) .none kV13 dc13 pm13 an13 cd13 ct13), sl13⟩) (c13 : PySem.W.codeIn K cd13 "_law_refused" = true) (k13 : PySem.W.keepIn K (.ref f13) = true)
    {f14 : Addr} {oc14 kV14 dc14 pm14 cd14 ct14 : Value} {od14 an14 : Option Addr} {sl14 : Array (Option Value)} (a14 : PySem.W.nsIn K mainGlobals "_law_right" = some (some (.ref f14))) (l14 : K.lookup f14 = some ⟨oc14, od14, .func (PySem.W.fnOf "_law_right" "_law_right" (defArgs s_law_right) (defBody s_law_right) (defScope s_law_right) .none kV14 dc14 pm14 an14 cd14 ct14), sl14⟩) (c14 : PySem.W.codeIn K cd14 "_law_right" = true) (k14 : PySem.W.keepIn K (.ref f14) = true)
    {f15 : Addr} {oc15 kV15 dc15 pm15 cd15 ct15 : Value} {od15 an15 : Option Addr} {sl15 : Array (Option Value)} (a15 : PySem.W.nsIn K mainGlobals "_law_spoilt" = some (some (.ref f15))) (l15 : K.lookup f15 = some ⟨oc15, od15, .func (PySem.W.fnOf "_law_spoilt" "_law_spoilt" (defArgs s_law_spoilt) (defBody s_law_spoilt) (defScope s_law_spoilt) .none kV15 dc15 pm15 an15 cd15 ct15), sl15⟩) (c15 : PySem.W.codeIn K cd15 "_law_spoilt" = true) (k15 : PySem.W.keepIn K (.ref f15) = true)
    {f16 : Addr} {oc16 kV16 dc16 pm16 cd16 ct16 : Value} {od16 an16 : Option Addr} {sl16 : Array (Option Value)} (a16 : PySem.W.nsIn K mainGlobals "_law_many" = some (some (.ref f16))) (l16 : K.lookup f16 = some ⟨oc16, od16, .func (PySem.W.fnOf "_law_many" "_law_many" (defArgs s_law_many) (defBody s_law_many) (defScope s_law_many) .none kV16 dc16 pm16 an16 cd16 ct16), sl16⟩) (c16 : PySem.W.codeIn K cd16 "_law_many" = true) (k16 : PySem.W.keepIn K (.ref f16) = true)
    {f17 : Addr} {oc17 kV17 dc17 pm17 cd17 ct17 : Value} {od17 an17 : Option Addr} {sl17 : Array (Option Value)} (a17 : PySem.W.nsIn K mainGlobals "law" = some (some (.ref f17))) (l17 : K.lookup f17 = some ⟨oc17, od17, .func (PySem.W.fnOf "law" "law" (defArgs s_law) (defBody s_law) (defScope s_law) .none kV17 dc17 pm17 an17 cd17 ct17), sl17⟩) (c17 : PySem.W.codeIn K cd17 "law" = true) (k17 : PySem.W.keepIn K (.ref f17) = true)
    (z0 : PySem.W.nsIn K mainGlobals "len" = some none)
    (z1 : PySem.W.nsIn K mainGlobals "int" = some none)
    (z2 : PySem.W.nsIn K mainGlobals "list" = some none)
    (z3 : PySem.W.nsIn K mainGlobals "range" = some none)
    (z4 : PySem.W.nsIn K mainGlobals "isinstance" = some none)
    (z5 : PySem.W.nsIn K mainGlobals "str" = some none)
    (z6 : PySem.W.nsIn K mainGlobals "enumerate" = some none)
    (z7 : PySem.W.nsIn K mainGlobals "abs" = some none)
    (z8 : PySem.W.nsIn K mainGlobals "bool" = some none)
    (z9 : PySem.W.nsIn K mainGlobals "ValueError" = some none)
    (z10 : PySem.W.nsIn K mainGlobals "max" = some none)
    (z11 : PySem.W.nsIn K mainGlobals "min" = some none)
    {u0 : Tok} (y0 : PySem.W.nsIn K mainGlobals "FIGURES" = some (some (.str "0123456789" u0)))
    {u1 : Tok} (y1 : PySem.W.nsIn K mainGlobals "MOST_STRIDE" = some (some (.int 99 u1)))
    {u2 : Tok} (y2 : PySem.W.nsIn K mainGlobals "MOST_SIGNS" = some (some (.int 300 u2)))
    {u3 : Tok} (y3 : PySem.W.nsIn K mainGlobals "MOST_ITEMS" = some (some (.int 40 u3)))
    {a_NoField : Addr} (n_NoField : PySem.W.nsIn K mainGlobals "NoField" = some (some (.ref a_NoField)))
    (e0_NoField : PySem.W.keepIn K (.ref a_NoField) = true)
    (e1_NoField : PySem.W.subIn K (.ref a_NoField) (.type "BaseException") = some true)
    (e2_NoField : PySem.W.typeIn K (.ref a_NoField) = some (.type "type"))
    (e3_NoField : PySem.W.hasDictIn K a_NoField = true)
    (e4_NoField : PySem.W.findIn K (.ref a_NoField) "__getattribute__" = some (some (.builtin "BaseException.__getattribute__")))
    (e5_NoField : PySem.W.findIn K (.ref a_NoField) "__getattr__" = some none)
    (e6_NoField : PySem.W.findIn K (.ref a_NoField) "__class__" = some (some (.builtin "object.__class__")))
    (e7_NoField : PySem.W.mroIn K a_NoField (.type "object") = some true)
    {a_FieldError : Addr} (n_FieldError : PySem.W.nsIn K mainGlobals "FieldError" = some (some (.ref a_FieldError)))
    (e0_FieldError : PySem.W.keepIn K (.ref a_FieldError) = true)
    (e1_FieldError : PySem.W.subIn K (.ref a_FieldError) (.type "BaseException") = some true)
    (e2_FieldError : PySem.W.typeIn K (.ref a_FieldError) = some (.type "type"))
    (e3_FieldError : PySem.W.hasDictIn K a_FieldError = true)
    (e4_FieldError : PySem.W.findIn K (.ref a_FieldError) "__getattribute__" = some (some (.builtin "BaseException.__getattribute__")))
    (e5_FieldError : PySem.W.findIn K (.ref a_FieldError) "__getattr__" = some none)
    (e6_FieldError : PySem.W.findIn K (.ref a_FieldError) "__class__" = some (some (.builtin "object.__class__")))
    (e7_FieldError : PySem.W.mroIn K a_FieldError (.type "object") = some true)
    {a_NoDay : Addr} (n_NoDay : PySem.W.nsIn K mainGlobals "NoDay" = some (some (.ref a_NoDay)))
    {a_NoMoment : Addr} (n_NoMoment : PySem.W.nsIn K mainGlobals "NoMoment" = some (some (.ref a_NoMoment)))
    {a_NoRow : Addr} (n_NoRow : PySem.W.nsIn K mainGlobals "NoRow" = some (some (.ref a_NoRow)))
    {a_NoBook : Addr} (n_NoBook : PySem.W.nsIn K mainGlobals "NoBook" = some (some (.ref a_NoBook)))
    {a_NoClock : Addr} (n_NoClock : PySem.W.nsIn K mainGlobals "NoClock" = some (some (.ref a_NoClock)))
    {a_NoName : Addr} (n_NoName : PySem.W.nsIn K mainGlobals "NoName" = some (some (.ref a_NoName)))
    {a_NoWord : Addr} (n_NoWord : PySem.W.nsIn K mainGlobals "NoWord" = some (some (.ref a_NoWord)))
    (ecn : PySem.W.specialIn K (.builtin "object.__class__") "__get__" = some (some (.builtin "getset_descriptor.__get__"))) (ect : PySem.W.takesIn K (.builtin "object.__class__") = some true)
    (f_sub : PySem.W.subIn K (.ref a_NoField) (.ref a_FieldError) = some true)
    (f_ve : PySem.W.kitOne K (.ref a_NoField) (.type "ValueError") = some true)
    (f_not : PySem.W.kitAny K (.ref a_NoField) [.ref a_NoDay, .ref a_NoMoment, .ref a_NoRow, .ref a_NoBook, .ref a_NoClock, .ref a_NoName, .ref a_NoWord] = some false)
    (xo_NoField : oexIn K a_NoField = true) (xs_NoField : PySem.W.findIn K (.ref a_NoField) "__setattr__" = some (some (.builtin "object.__setattr__"))) (xn_NoField : PySem.W.findIn K (.ref a_NoField) "at" = some none)
    {xf_NoField : Addr} (xa_NoField : PySem.W.findIn K (.ref a_NoField) "__init__" = some (some (.ref xf_NoField))) (xt_NoField : PySem.W.typeIn K (.ref xf_NoField) = some (.type "function"))
    {xoc_NoField xkV_NoField xdc_NoField xpm_NoField xcd_NoField xct_NoField : Value} {xod_NoField xan_NoField : Option Addr} {xsl_NoField : Array (Option Value)} (xl_NoField : K.lookup xf_NoField = some ⟨xoc_NoField, xod_NoField, .func (PySem.W.fnOf "__init__" "NoField.__init__" (defArgs s_NoField_init) (defBody s_NoField_init) (defScope s_NoField_init) .none xkV_NoField xdc_NoField xpm_NoField xan_NoField xcd_NoField xct_NoField), xsl_NoField⟩) (xc_NoField : PySem.W.codeIn K xcd_NoField "NoField.__init__" = true) (xk_NoField : PySem.W.keepIn K (.ref xf_NoField) = true)
    (vr : PySem.W.readsIn K a_FieldError (.type "type") = true) (vg : PySem.W.specialIn K (.ref a_FieldError) "__getattribute__" = some (some (.builtin "type.__getattribute__"))) (vi : PySem.W.findCls K (.ref a_FieldError) (.type "type") "__init__" = some (.val (.builtin "ValueError.__init__")))
    : ∃ fd : FuncData, (∀ (s : Shared) (u : Value), BindsTo s fd ⟨[u], []⟩ [("_law_script", u)]) ∧ ∀ base : Heap, K.In base → base.Ns mainGlobals mg → FnOk P w K mg base (L2N.CX P w) 7 fa fd ["_law_script"] (spD K 1 phiLaw) := by
  have T_mask_of := def_at (x := "mask_of") (st := s_mask_of) (ps := ["numbers"]) X G a0 l0 c0 k0 (fun _ _ _ _ _ _ us hl => match us, hl with | [_], _ => rfl)
  have T_only_figures := def_at (x := "only_figures") (st := s_only_figures) (ps := ["signs"]) X G a1 l1 c1 k1 (fun _ _ _ _ _ _ us hl => match us, hl with | [_], _ => rfl)
  have T_number_in := def_at (x := "number_in") (st := s_number_in) (ps := ["text", "low", "high"]) X G a2 l2 c2 k2 (fun _ _ _ _ _ _ us hl => match us, hl with | [_, _, _], _ => rfl)
  have T_span_in := def_at (x := "span_in") (st := s_span_in) (ps := ["text", "low", "high"]) X G a3 l3 c3 k3 (fun _ _ _ _ _ _ us hl => match us, hl with | [_, _, _], _ => rfl)
  have T_item_mask := def_at (x := "item_mask") (st := s_item_mask) (ps := ["item", "low", "high"]) X G a4 l4 c4 k4 (fun _ _ _ _ _ _ us hl => match us, hl with | [_, _, _], _ => rfl)
  have T_read_field := def_at (x := "read_field") (st := s_read_field) (ps := ["text", "low", "high"]) X G a5 l5 c5 k5 (fun _ _ _ _ _ _ us hl => match us, hl with | [_, _, _], _ => rfl)
  have T_law_cell_at := def_at (x := "_law_cell_at") (st := s_law_cell_at) (ps := ["_law_script", "_law_k"]) X G a6 l6 c6 k6 (fun _ _ _ _ _ _ us hl => match us, hl with | [_, _], _ => rfl)
  have T_law_stir := def_at (x := "_law_stir") (st := s_law_stir) (ps := ["_law_number"]) X G a7 l7 c7 k7 (fun _ _ _ _ _ _ us hl => match us, hl with | [_], _ => rfl)
  have T_law_digits := def_at (x := "_law_digits") (st := s_law_digits) (ps := ["_law_cell", "_law_sizes", "_law_mixed"]) X G a8 l8 c8 k8 (fun _ _ _ _ _ _ us hl => match us, hl with | [_, _, _], _ => rfl)
  have T_law_whole := def_at (x := "_law_whole") (st := s_law_whole) (ps := ["_law_found"]) X G a9 l9 c9 k9 (fun _ _ _ _ _ _ us hl => match us, hl with | [_], _ => rfl)
  have T_law_bounds := def_at (x := "_law_bounds") (st := s_law_bounds) (ps := ["_law_which", "_law_one", "_law_other"]) X G a10 l10 c10 k10 (fun _ _ _ _ _ _ us hl => match us, hl with | [_, _, _], _ => rfl)
  have T_law_item := def_at (x := "_law_item") (st := s_law_item) (ps := ["_law_digits_here", "_law_low", "_law_high"]) X G a11 l11 c11 k11 (fun _ _ _ _ _ _ us hl => match us, hl with | [_, _, _], _ => rfl)
  have T_law_wrong := def_at (x := "_law_wrong") (st := s_law_wrong) (ps := ["_law_cell", "_law_low", "_law_high"]) X G a12 l12 c12 k12 (fun _ _ _ _ _ _ us hl => match us, hl with | [_, _, _], _ => rfl)
  have T_law_refused := def_at (x := "_law_refused") (st := s_law_refused) (ps := ["_law_text", "_law_low", "_law_high", "_law_at"]) X G a13 l13 c13 k13 (fun _ _ _ _ _ _ us hl => match us, hl with | [_, _, _, _], _ => rfl)
  have T_law_right := def_at (x := "_law_right") (st := s_law_right) (ps := ["_law_script", "_law_low", "_law_high", "_law_mixed"]) X G a14 l14 c14 k14 (fun _ _ _ _ _ _ us hl => match us, hl with | [_, _, _, _], _ => rfl)
  have T_law_spoilt := def_at (x := "_law_spoilt") (st := s_law_spoilt) (ps := ["_law_digits_here", "_law_texts", "_law_low", "_law_high"]) X G a15 l15 c15 k15 (fun _ _ _ _ _ _ us hl => match us, hl with | [_, _, _, _], _ => rfl)
  have T_law_many := def_at (x := "_law_many") (st := s_law_many) (ps := ["_law_digits_here", "_law_low", "_law_high"]) X G a16 l16 c16 k16 (fun _ _ _ _ _ _ us hl => match us, hl with | [_, _, _], _ => rfl)
  have m_len := PySem.W.mg_none_of X G z0
  have m_int := PySem.W.mg_none_of X G z1
  have m_list := PySem.W.mg_none_of X G z2
  have m_range := PySem.W.mg_none_of X G z3
  have m_isinstance := PySem.W.mg_none_of X G z4
  have m_str := PySem.W.mg_none_of X G z5
  have m_enumerate := PySem.W.mg_none_of X G z6
  have m_abs := PySem.W.mg_none_of X G z7
  have m_bool := PySem.W.mg_none_of X G z8
  have m_ValueError := PySem.W.mg_none_of X G z9
  have m_max := PySem.W.mg_none_of X G z10
  have m_min := PySem.W.mg_none_of X G z11
  have g_FIGURES : GlD K mg "FIGURES" d_FIGURES := gl_tx (by decide +kernel) X G y0
  have g_MOST_STRIDE : GlD K mg "MOST_STRIDE" d_MOST_STRIDE := gl_int X G y1
  have g_MOST_SIGNS : GlD K mg "MOST_SIGNS" d_MOST_SIGNS := gl_int X G y2
  have g_MOST_ITEMS : GlD K mg "MOST_ITEMS" d_MOST_ITEMS := gl_int X G y3
  have x_NoField : ExCls K mg "NoField" a_NoField := exCls_mk X G n_NoField e0_NoField e1_NoField e2_NoField e3_NoField e4_NoField e5_NoField e6_NoField e7_NoField ecn ect
  have x_FieldError : ExCls K mg "FieldError" a_FieldError := exCls_mk X G n_FieldError e0_FieldError e1_FieldError e2_FieldError e3_FieldError e4_FieldError e5_FieldError e6_FieldError e7_FieldError ecn ect
  have w_NoDay : mg "NoDay" = some (.ref a_NoDay) := PySem.W.mg_of X G n_NoDay
  have w_NoMoment : mg "NoMoment" = some (.ref a_NoMoment) := PySem.W.mg_of X G n_NoMoment
  have w_NoRow : mg "NoRow" = some (.ref a_NoRow) := PySem.W.mg_of X G n_NoRow
  have w_NoBook : mg "NoBook" = some (.ref a_NoBook) := PySem.W.mg_of X G n_NoBook
  have w_NoClock : mg "NoClock" = some (.ref a_NoClock) := PySem.W.mg_of X G n_NoClock
  have w_NoName : mg "NoName" = some (.ref a_NoName) := PySem.W.mg_of X G n_NoName
  have w_NoWord : mg "NoWord" = some (.ref a_NoWord) := PySem.W.mg_of X G n_NoWord
  exact law_mk X G hfa a17 l17 c17 k17 (fun _ _ _ _ _ _ us hl => match us, hl with | [_], _ => rfl) (fun s v => .of_eq rfl) fun fd T base => by
    have XF_NoField := fun_mk (st := s_NoField_init) xl_NoField xc_NoField xk_NoField
    have i_NoField : ExI P w K mg base "NoField" a_NoField "at" := exI_mk (sF := "FieldError") x_NoField (oex_mk x_NoField xo_NoField xs_NoField) ⟨PySem.W.mg_of X G n_FieldError, vr, vg, vi⟩ xn_NoField xa_NoField xt_NoField XF_NoField sc_NoField_init rfl rfl (XF_NoField.binds (fun _ _ _ _ _ _ us hl => match us, hl with | [_, _], _ => rfl)) (fun _ => ⟨_, rfl⟩)
    have cq_law_whole : FnQ P w K mg base "_law_whole" 1 1 phi_wholeQ := whole_okQ T_law_whole sc_law_whole rfl (by decide +kernel) rfl m_isinstance m_int m_bool
    have c_mask_of := ok_mask_of (P := P) (w := w) (base := base) T_mask_of
    have c_only_figures := ok_only_figures (P := P) (w := w) (base := base) T_only_figures g_FIGURES
    have c_number_in := ok_number_in (P := P) (w := w) (base := base) T_number_in c_only_figures m_len m_int
    have c_span_in := ok_span_in (P := P) (w := w) (base := base) T_span_in c_number_in m_len
    have c_item_mask := ok_item_mask (P := P) (w := w) (base := base) T_item_mask c_span_in c_mask_of c_number_in c_only_figures m_len m_list m_range g_MOST_STRIDE
    have c_read_field : FnC P w K mg base "read_field" 5 3 (phi_readF a_NoField) := ok_read_field (P := P) (w := w) (base := base) T_read_field c_item_mask m_isinstance m_str m_len m_enumerate g_MOST_SIGNS g_MOST_ITEMS x_NoField i_NoField
    have c_law_cell_at := ok_law_cell_at (P := P) (w := w) (base := base) T_law_cell_at m_len
    have c_law_stir := ok_law_stir (P := P) (w := w) (base := base) T_law_stir
    have c_law_digits := ok_law_digits (P := P) (w := w) (base := base) T_law_digits c_law_stir m_abs
    have c_law_whole := ok_law_whole (P := P) (w := w) (base := base) T_law_whole m_isinstance m_int m_bool
    have c_law_bounds := ok_law_bounds (P := P) (w := w) (base := base) T_law_bounds
    have c_law_item := ok_law_item (P := P) (w := w) (base := base) T_law_item m_str
    have c_law_wrong := ok_law_wrong (P := P) (w := w) (base := base) T_law_wrong m_str m_len
    have c_law_refused : FnC P w K mg base "_law_refused" 6 4 (phi_law_refused a_NoField) := ok_law_refused (P := P) (w := w) (base := base) T_law_refused c_read_field c_law_whole m_isinstance m_ValueError x_FieldError x_NoField w_NoDay w_NoMoment w_NoRow w_NoBook w_NoClock w_NoName w_NoWord i_NoField cq_law_whole f_sub f_ve f_not
    have c_law_right := ok_law_right (P := P) (w := w) (base := base) T_law_right c_law_item c_law_digits c_law_cell_at m_range m_max m_min m_len
    have c_law_spoilt := ok_law_spoilt (P := P) (w := w) (base := base) T_law_spoilt c_law_wrong m_list m_len m_min
    have c_law_many := ok_law_many (P := P) (w := w) (base := base) T_law_many c_law_wrong m_range m_len m_min m_str
    exact ok_law T c_law_cell_at c_law_digits c_law_bounds c_law_right c_read_field c_law_spoilt c_law_refused c_law_many m_str
end W24
open PySem PySem.W PyProof.Rows
set_option maxHeartbeats 0 in
theorem PySem.Challenge.cw_fivefields_k24_first_wrong_item_holds : PySem.Challenge.rw_fivefields_k24_first_wrong_item.Holds := by
  refine W24H.pre fun said => ?_
  refine W24H.head said ?hc
  k_fill
  refine PL.law_walk (l := PySem.Challenge.rw_fivefields_k24_first_wrong_item) (k := 7) (x := "_law_script") rfl (by kernel_rfl) ⟨rfl, by decide, by decide⟩ (fun w h Y => PySem.W.kIn_of Y) ?F
  case F =>
    intro w mg fa h KX G hmg
    refine' W24.all_mk KX G hmg ?a0 ?l0 ?c0 ?k0 ?a1 ?l1 ?c1 ?k1 ?a2 ?l2 ?c2 ?k2 ?a3 ?l3 ?c3 ?k3 ?a4 ?l4 ?c4 ?k4 ?a5 ?l5 ?c5 ?k5 ?a6 ?l6 ?c6 ?k6 ?a7 ?l7 ?c7 ?k7 ?a8 ?l8 ?c8 ?k8 ?a9 ?l9 ?c9 ?k9 ?a10 ?l10 ?c10 ?k10 ?a11 ?l11 ?c11 ?k11 ?a12 ?l12 ?c12 ?k12 ?a13 ?l13 ?c13 ?k13 ?a14 ?l14 ?c14 ?k14 ?a15 ?l15 ?c15 ?k15 ?a16 ?l16 ?c16 ?k16 ?a17 ?l17 ?c17 ?k17 ?z0 ?z1 ?z2 ?z3 ?z4 ?z5 ?z6 ?z7 ?z8 ?z9 ?z10 ?z11 ?y0 ?y1 ?y2 ?y3 ?n_NoField ?e0_NoField ?e1_NoField ?e2_NoField ?e3_NoField ?e4_NoField ?e5_NoField ?e6_NoField ?e7_NoField ?n_FieldError ?e0_FieldError ?e1_FieldError ?e2_FieldError ?e3_FieldError ?e4_FieldError ?e5_FieldError ?e6_FieldError ?e7_FieldError ?n_NoDay ?n_NoMoment ?n_NoRow ?n_NoBook ?n_NoClock ?n_NoName ?n_NoWord ?ecn ?ect ?f_sub ?f_ve ?f_not ?xo_NoField ?xs_NoField ?xn_NoField ?xa_NoField ?xt_NoField ?xl_NoField ?xc_NoField ?xk_NoField ?vr ?vg ?vi
    (case a0 => k_is); (case l0 => k_is); (case c0 => k_is); (case k0 => k_is); (case a1 => k_is); (case l1 => k_is); (case c1 => k_is); (case k1 => k_is); (case a2 => k_is); (case l2 => k_is); (case c2 => k_is); (case k2 => k_is); (case a3 => k_is); (case l3 => k_is); (case c3 => k_is); (case k3 => k_is); (case a4 => k_is); (case l4 => k_is); (case c4 => k_is); (case k4 => k_is); (case a5 => k_is); (case l5 => k_is); (case c5 => k_is); (case k5 => k_is); (case a6 => k_is); (case l6 => k_is); (case c6 => k_is); (case k6 => k_is); (case a7 => k_is); (case l7 => k_is); (case c7 => k_is); (case k7 => k_is); (case a8 => k_is); (case l8 => k_is); (case c8 => k_is); (case k8 => k_is); (case a9 => k_is); (case l9 => k_is); (case c9 => k_is); (case k9 => k_is); (case a10 => k_is); (case l10 => k_is); (case c10 => k_is); (case k10 => k_is); (case a11 => k_is); (case l11 => k_is); (case c11 => k_is); (case k11 => k_is); (case a12 => k_is); (case l12 => k_is); (case c12 => k_is); (case k12 => k_is); (case a13 => k_is); (case l13 => k_is); (case c13 => k_is); (case k13 => k_is); (case a14 => k_is); (case l14 => k_is); (case c14 => k_is); (case k14 => k_is); (case a15 => k_is); (case l15 => k_is); (case c15 => k_is); (case k15 => k_is); (case a16 => k_is); (case l16 => k_is); (case c16 => k_is); (case k16 => k_is); (case a17 => k_is); (case l17 => k_is); (case c17 => k_is); (case k17 => k_is); (case z0 => k_is); (case z1 => k_is); (case z2 => k_is); (case z3 => k_is); (case z4 => k_is); (case z5 => k_is); (case z6 => k_is); (case z7 => k_is); (case z8 => k_is); (case z9 => k_is); (case z10 => k_is); (case z11 => k_is); (case y0 => k_is); (case y1 => k_is); (case y2 => k_is); (case y3 => k_is); (case n_NoField => k_is); (case e0_NoField => k_is); (case e1_NoField => k_is); (case e2_NoField => k_is); (case e3_NoField => k_is); (case e4_NoField => k_is); (case e5_NoField => k_is); (case e6_NoField => k_is); (case e7_NoField => k_is); (case n_FieldError => k_is); (case e0_FieldError => k_is); (case e1_FieldError => k_is); (case e2_FieldError => k_is); (case e3_FieldError => k_is); (case e4_FieldError => k_is); (case e5_FieldError => k_is); (case e6_FieldError => k_is); (case e7_FieldError => k_is); (case n_NoDay => k_is); (case n_NoMoment => k_is); (case n_NoRow => k_is); (case n_NoBook => k_is); (case n_NoClock => k_is); (case n_NoName => k_is); (case n_NoWord => k_is); (case ecn => k_is); (case ect => k_is); (case f_sub => k_is); (case f_ve => kit_is); (case f_not => kit_is); (case xo_NoField => rfl); (case xs_NoField => k_is); (case xn_NoField => k_is); (case xa_NoField => k_is); (case xt_NoField => k_is); (case xl_NoField => k_is); (case xc_NoField => k_is); (case xk_NoField => k_is); (case vr => k_is); (case vg => k_is); (case vi => k_is)
