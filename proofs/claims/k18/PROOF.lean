import PyProof.Rows.All
import Wide.All
import OpenK.AllK
import Wide.FinOn
import KE.KStateDown
import HandS.Base
import HandS.Call
import HandS.Words
import HandS.Head0
import HandS.Head1
import HandS.Head2
import HandS.ForMost
import HandS.ForExc
import HandS.Walk
import HandS.Flow
import HandS.NoneIn
import HandS.TupSets
import HandS.Conv
import HandS.SetFor
import HandS.Strs
import HandS.Style
import HandS.Wide
import HandS.TupAny
import HandS.TupLe
import HandS.TupMul
import HandS.Deep
import HandS.IsInst
import HandS.Zip
import HandS.SortInts
import KE.SortData
import KE.DataCmp
import KE.DataMinMax
import KE.KIndexOf
import PyProof.SeqIndex
import KE.GoesEnum
import HandS.Iter
import PyProof.P3Eq
import HandS.Small
import HandS.ExcOwn
import HandS.RaiseMore
import HandS.Dict
import HandS.SetKeys
import HandS.ExcIs
import HandS.TryOnly
import HandS.TryMany
import HandS.DictComp
import HandS.Text
import HandS.List
import KE.KRevSl
import PyProof.ListCopy
import PyProof.InstNe
import KE.KIsAll
import KE.KTryMore
import HandS.Exc
import PyProof.Rows.SortShellAny
import PyProof.EqKinds
import KE.KEqDict
import PyProof.FactsAll.dict
import PySem.Challenge.RW_tornsectors_k18_whole_plans_and_their_ba
set_option Elab.async false
set_option linter.all false
set_option maxRecDepth 100000
set_option maxHeartbeats 4000000
namespace My
open PySem PySem.Spec PyProof.Rows L2
noncomputable def topS (i : Nat) : Stmt := PySem.Challenge.pw_tornsectors_k18_whole_plans_and_their_ba.main.body.getD i (.Pass ⟨0, 0, 0, 0⟩)
end My
namespace SH
open PySem PySem.Spec PyProof.Rows L2 My
noncomputable def names0 : List PySem.Str := [("__name__" : PySem.Str), ("SectorError" : PySem.Str), ("NoPlaces" : PySem.Str), ("BadPlan" : PySem.Str), ("MOST_ITEMS" : PySem.Str), ("MOST_ITEM" : PySem.Str), ("MOST_SECTORS" : PySem.Str), ("is_integer" : PySem.Str), ("is_between" : PySem.Str), ("is_index" : PySem.Str), ("is_value" : PySem.Str), ("is_held" : PySem.Str), ("is_state" : PySem.Str), ("is_disk_step" : PySem.Str), ("MOST_STEPS" : PySem.Str)]
noncomputable def names1 : List PySem.Str := [("is_deed_step" : PySem.Str), ("Plan" : PySem.Str), ("RawPlan" : PySem.Str), ("bare_steps" : PySem.Str), ("bare" : PySem.Str), ("places_of" : PySem.Str), ("places" : PySem.Str), ("check_places" : PySem.Str), ("with_barriers" : PySem.Str), ("_law_hand" : PySem.Str), ("_law_draw" : PySem.Str), ("_law_value" : PySem.Str), ("_law_pool" : PySem.Str), ("_law_any" : PySem.Str), ("_law_steps" : PySem.Str)]
noncomputable def names2 : List PySem.Str := [("_law_bare" : PySem.Str), ("_law_with" : PySem.Str), ("_law_told" : PySem.Str), ("_law_long_right" : PySem.Str)]
noncomputable def names : List PySem.Str := names0 ++ names1 ++ names2
noncomputable def Kh : Params → PySem.W.Frag := fun P => Prod.mk (nat_lit 2) (@PySem.Obj.mk @PySem.Value.none (@Option.none @Nat) (@PySem.Data.dict #[] 0) #[]) :: Prod.mk (nat_lit 3) (@PySem.Obj.mk (@PySem.Value.type "dict") (@Option.none @Nat) (@PySem.Data.dict #[(@PySem.DictEntry.mk (@PySem.PyData.keyHash P ("__name__" : PySem.Str)) (@PySem.Value.str ("__name__" : PySem.Str) 165) (@PySem.Value.str ("law_tornsectors_k18_whole_plans_and_their_ba" : PySem.Str) 473)), (@PySem.DictEntry.mk (@PySem.PyData.keyHash P ("__doc__" : PySem.Str)) (@PySem.Value.str ("__doc__" : PySem.Str) 166) @PySem.Value.none), (@PySem.DictEntry.mk (@PySem.PyData.keyHash P ("__package__" : PySem.Str)) (@PySem.Value.str ("__package__" : PySem.Str) 167) @PySem.Value.none), (@PySem.DictEntry.mk (@PySem.PyData.keyHash P ("__loader__" : PySem.Str)) (@PySem.Value.str ("__loader__" : PySem.Str) 168) (@PySem.Value.builtin "__main__.__loader__#opaque")), (@PySem.DictEntry.mk (@PySem.PyData.keyHash P ("__spec__" : PySem.Str)) (@PySem.Value.str ("__spec__" : PySem.Str) 169) @PySem.Value.none), (@PySem.DictEntry.mk (@PySem.PyData.keyHash P ("__annotations__" : PySem.Str)) (@PySem.Value.str ("__annotations__" : PySem.Str) 170) (@PySem.Value.ref 6)), (@PySem.DictEntry.mk (@PySem.PyData.keyHash P ("__builtins__" : PySem.Str)) (@PySem.Value.str ("__builtins__" : PySem.Str) 171) (@PySem.Value.ref 4)), (@PySem.DictEntry.mk (@PySem.PyData.keyHash P ("__file__" : PySem.Str)) (@PySem.Value.str ("__file__" : PySem.Str) 173) (@PySem.Value.str ("/claim/cut.py" : PySem.Str) 172)), (@PySem.DictEntry.mk (@PySem.PyData.keyHash P ("__cached__" : PySem.Str)) (@PySem.Value.str ("__cached__" : PySem.Str) 174) @PySem.Value.none), (@PySem.DictEntry.mk (@PySem.PyData.keyHash P ("SectorError" : PySem.Str)) (@PySem.Value.str ("SectorError" : PySem.Str) 206) (@PySem.Value.ref 24)), (@PySem.DictEntry.mk (@PySem.PyData.keyHash P ("NoPlaces" : PySem.Str)) (@PySem.Value.str ("NoPlaces" : PySem.Str) 222) (@PySem.Value.ref 37)), (@PySem.DictEntry.mk (@PySem.PyData.keyHash P ("BadPlan" : PySem.Str)) (@PySem.Value.str ("BadPlan" : PySem.Str) 251) (@PySem.Value.ref 58)), (@PySem.DictEntry.mk (@PySem.PyData.keyHash P ("MOST_ITEMS" : PySem.Str)) (@PySem.Value.str ("MOST_ITEMS" : PySem.Str) 255) (@PySem.Value.int 32 254)), (@PySem.DictEntry.mk (@PySem.PyData.keyHash P ("MOST_ITEM" : PySem.Str)) (@PySem.Value.str ("MOST_ITEM" : PySem.Str) 259) (@PySem.Value.int 1000000000000 258)), (@PySem.DictEntry.mk (@PySem.PyData.keyHash P ("MOST_SECTORS" : PySem.Str)) (@PySem.Value.str ("MOST_SECTORS" : PySem.Str) 261) (@PySem.Value.int 64 260)), (@PySem.DictEntry.mk (@PySem.PyData.keyHash P ("is_integer" : PySem.Str)) (@PySem.Value.str ("is_integer" : PySem.Str) 268) (@PySem.Value.ref 67)), (@PySem.DictEntry.mk (@PySem.PyData.keyHash P ("is_between" : PySem.Str)) (@PySem.Value.str ("is_between" : PySem.Str) 277) (@PySem.Value.ref 74)), (@PySem.DictEntry.mk (@PySem.PyData.keyHash P ("is_index" : PySem.Str)) (@PySem.Value.str ("is_index" : PySem.Str) 285) (@PySem.Value.ref 81)), (@PySem.DictEntry.mk (@PySem.PyData.keyHash P ("is_value" : PySem.Str)) (@PySem.Value.str ("is_value" : PySem.Str) 291) (@PySem.Value.ref 86)), (@PySem.DictEntry.mk (@PySem.PyData.keyHash P ("is_held" : PySem.Str)) (@PySem.Value.str ("is_held" : PySem.Str) 298) (@PySem.Value.ref 93)), (@PySem.DictEntry.mk (@PySem.PyData.keyHash P ("is_state" : PySem.Str)) (@PySem.Value.str ("is_state" : PySem.Str) 304) (@PySem.Value.ref 98)), (@PySem.DictEntry.mk (@PySem.PyData.keyHash P ("is_disk_step" : PySem.Str)) (@PySem.Value.str ("is_disk_step" : PySem.Str) 314) (@PySem.Value.ref 105)), (@PySem.DictEntry.mk (@PySem.PyData.keyHash P ("MOST_STEPS" : PySem.Str)) (@PySem.Value.str ("MOST_STEPS" : PySem.Str) 318) (@PySem.Value.int 200 317)), (@PySem.DictEntry.mk (@PySem.PyData.keyHash P ("is_deed_step" : PySem.Str)) (@PySem.Value.str ("is_deed_step" : PySem.Str) 325) (@PySem.Value.ref 112)), (@PySem.DictEntry.mk (@PySem.PyData.keyHash P ("Plan" : PySem.Str)) (@PySem.Value.str ("Plan" : PySem.Str) 398) (@PySem.Value.ref 164)), (@PySem.DictEntry.mk (@PySem.PyData.keyHash P ("RawPlan" : PySem.Str)) (@PySem.Value.str ("RawPlan" : PySem.Str) 423) (@PySem.Value.ref 185)), (@PySem.DictEntry.mk (@PySem.PyData.keyHash P ("bare_steps" : PySem.Str)) (@PySem.Value.str ("bare_steps" : PySem.Str) 431) (@PySem.Value.ref 192)), (@PySem.DictEntry.mk (@PySem.PyData.keyHash P ("bare" : PySem.Str)) (@PySem.Value.str ("bare" : PySem.Str) 438) (@PySem.Value.ref 199)), (@PySem.DictEntry.mk (@PySem.PyData.keyHash P ("places_of" : PySem.Str)) (@PySem.Value.str ("places_of" : PySem.Str) 448) (@PySem.Value.ref 206)), (@PySem.DictEntry.mk (@PySem.PyData.keyHash P ("places" : PySem.Str)) (@PySem.Value.str ("places" : PySem.Str) 455) (@PySem.Value.ref 213)), (@PySem.DictEntry.mk (@PySem.PyData.keyHash P ("check_places" : PySem.Str)) (@PySem.Value.str ("check_places" : PySem.Str) 461) (@PySem.Value.ref 218)), (@PySem.DictEntry.mk (@PySem.PyData.keyHash P ("with_barriers" : PySem.Str)) (@PySem.Value.str ("with_barriers" : PySem.Str) 472) (@PySem.Value.ref 225)), (@PySem.DictEntry.mk (@PySem.PyData.keyHash P ("_law_hand" : PySem.Str)) (@PySem.Value.str ("_law_hand" : PySem.Str) 480) (@PySem.Value.ref 230)), (@PySem.DictEntry.mk (@PySem.PyData.keyHash P ("_law_draw" : PySem.Str)) (@PySem.Value.str ("_law_draw" : PySem.Str) 491) (@PySem.Value.ref 237)), (@PySem.DictEntry.mk (@PySem.PyData.keyHash P ("_law_value" : PySem.Str)) (@PySem.Value.str ("_law_value" : PySem.Str) 497) (@PySem.Value.ref 242)), (@PySem.DictEntry.mk (@PySem.PyData.keyHash P ("_law_pool" : PySem.Str)) (@PySem.Value.str ("_law_pool" : PySem.Str) 507) (@PySem.Value.ref 249)), (@PySem.DictEntry.mk (@PySem.PyData.keyHash P ("_law_any" : PySem.Str)) (@PySem.Value.str ("_law_any" : PySem.Str) 515) (@PySem.Value.ref 256)), (@PySem.DictEntry.mk (@PySem.PyData.keyHash P ("_law_steps" : PySem.Str)) (@PySem.Value.str ("_law_steps" : PySem.Str) 529) (@PySem.Value.ref 263)), (@PySem.DictEntry.mk (@PySem.PyData.keyHash P ("_law_bare" : PySem.Str)) (@PySem.Value.str ("_law_bare" : PySem.Str) 535) (@PySem.Value.ref 268)), (@PySem.DictEntry.mk (@PySem.PyData.keyHash P ("_law_with" : PySem.Str)) (@PySem.Value.str ("_law_with" : PySem.Str) 545) (@PySem.Value.ref 275)), (@PySem.DictEntry.mk (@PySem.PyData.keyHash P ("_law_told" : PySem.Str)) (@PySem.Value.str ("_law_told" : PySem.Str) 554) (@PySem.Value.ref 282)), (@PySem.DictEntry.mk (@PySem.PyData.keyHash P ("_law_long_right" : PySem.Str)) (@PySem.Value.str ("_law_long_right" : PySem.Str) 560) (@PySem.Value.ref 287)), (@PySem.DictEntry.mk (@PySem.PyData.keyHash P ("law" : PySem.Str)) (@PySem.Value.str ("law" : PySem.Str) 566) (@PySem.Value.ref 292))] 43) #[]) :: Prod.mk (nat_lit 23) (@PySem.Obj.mk (@PySem.Value.type "dict") (@Option.none @Nat) (@PySem.Data.dict #[(@PySem.DictEntry.mk (@PySem.PyData.keyHash P ("__module__" : PySem.Str)) (@PySem.Value.str ("__module__" : PySem.Str) 196) (@PySem.Value.str ("tornsectors.errors" : PySem.Str) 187)), (@PySem.DictEntry.mk (@PySem.PyData.keyHash P ("__firstlineno__" : PySem.Str)) (@PySem.Value.str ("__firstlineno__" : PySem.Str) 200) (@PySem.Value.int 2 199)), (@PySem.DictEntry.mk (@PySem.PyData.keyHash P ("__static_attributes__" : PySem.Str)) (@PySem.Value.str ("__static_attributes__" : PySem.Str) 201) (@PySem.Value.ref 22)), (@PySem.DictEntry.mk (@PySem.PyData.keyHash P ("__weakref__" : PySem.Str)) (@PySem.Value.str ("__weakref__" : PySem.Str) 203) (@PySem.Value.ref 25)), (@PySem.DictEntry.mk (@PySem.PyData.keyHash P ("__doc__" : PySem.Str)) (@PySem.Value.str ("__doc__" : PySem.Str) 204) @PySem.Value.none)] 3) #[]) :: Prod.mk (nat_lit 24) (@PySem.Obj.mk (@PySem.Value.type "type") (@Option.none @Nat) (@PySem.Data.cls (@PySem.ClassData.mk ("SectorError" : PySem.Str) [(@PySem.Value.type "ValueError")] [(@PySem.Value.ref 24), (@PySem.Value.type "ValueError"), (@PySem.Value.type "Exception"), (@PySem.Value.type "BaseException"), (@PySem.Value.type "object")] 23 ("SectorError" : PySem.Str) @Bool.true [] [(@PySem.Value.ref 37), (@PySem.Value.ref 58)] @Bool.false (@Option.none @Bool) @Bool.false)) #[(@Option.some @PySem.Value (@PySem.Value.ref 15)), (@Option.none @PySem.Value), (@Option.some @PySem.Value (@PySem.Value.str ("SectorError" : PySem.Str) 189)), (@Option.some @PySem.Value (@PySem.Value.str ("SectorError" : PySem.Str) 197)), (@Option.some @PySem.Value (@PySem.Value.builtin "ValueError.__new__")), (@Option.some @PySem.Value (@PySem.Value.bool @Bool.true))]) :: Prod.mk (nat_lit 25) (@PySem.Obj.mk (@PySem.Value.type "getset_descriptor") (@Option.none @Nat) (@PySem.Data.fields #[(@PySem.Value.str ("__weakref__" : PySem.Str) 202), (@PySem.Value.ref 24), (@PySem.Value.builtin "ExceptionGroup.__weakref__"), @PySem.Value.none]) #[]) :: Prod.mk (nat_lit 36) (@PySem.Obj.mk (@PySem.Value.type "dict") (@Option.none @Nat) (@PySem.Data.dict #[(@PySem.DictEntry.mk (@PySem.PyData.keyHash P ("__module__" : PySem.Str)) (@PySem.Value.str ("__module__" : PySem.Str) 214) (@PySem.Value.str ("tornsectors.errors" : PySem.Str) 187)), (@PySem.DictEntry.mk (@PySem.PyData.keyHash P ("__firstlineno__" : PySem.Str)) (@PySem.Value.str ("__firstlineno__" : PySem.Str) 218) (@PySem.Value.int 4 217)), (@PySem.DictEntry.mk (@PySem.PyData.keyHash P ("__static_attributes__" : PySem.Str)) (@PySem.Value.str ("__static_attributes__" : PySem.Str) 219) (@PySem.Value.ref 35)), (@PySem.DictEntry.mk (@PySem.PyData.keyHash P ("__doc__" : PySem.Str)) (@PySem.Value.str ("__doc__" : PySem.Str) 220) @PySem.Value.none)] 2) #[]) :: Prod.mk (nat_lit 37) (@PySem.Obj.mk (@PySem.Value.type "type") (@Option.none @Nat) (@PySem.Data.cls (@PySem.ClassData.mk ("NoPlaces" : PySem.Str) [(@PySem.Value.ref 24)] [(@PySem.Value.ref 37), (@PySem.Value.ref 24), (@PySem.Value.type "ValueError"), (@PySem.Value.type "Exception"), (@PySem.Value.type "BaseException"), (@PySem.Value.type "object")] 36 ("NoPlaces" : PySem.Str) @Bool.true [] [] @Bool.false (@Option.none @Bool) @Bool.false)) #[(@Option.some @PySem.Value (@PySem.Value.ref 28)), (@Option.none @PySem.Value), (@Option.some @PySem.Value (@PySem.Value.str ("NoPlaces" : PySem.Str) 207)), (@Option.some @PySem.Value (@PySem.Value.str ("NoPlaces" : PySem.Str) 215)), (@Option.some @PySem.Value (@PySem.Value.builtin "ValueError.__new__")), (@Option.some @PySem.Value (@PySem.Value.bool @Bool.true))]) :: Prod.mk (nat_lit 43) (@PySem.Obj.mk (@PySem.Value.type "cell") (@Option.none @Nat) (@PySem.Data.cell (@Option.some @PySem.Value (@PySem.Value.ref 58))) #[]) :: Prod.mk (nat_lit 54) (@PySem.Obj.mk (@PySem.Value.type "code") (@Option.none @Nat) (@PySem.Data.fields #[(@PySem.Value.str ("__init__" : PySem.Str) 235), (@PySem.Value.str ("BadPlan.__init__" : PySem.Str) 236), (@PySem.Value.str ("/claim/cut.py" : PySem.Str) 237), (@PySem.Value.int 8 0), (@PySem.Value.int 3 0), (@PySem.Value.int 0 0), (@PySem.Value.int 0 0), (@PySem.Value.int 3 0), (@PySem.Value.ref 49), (@PySem.Value.bool @Bool.true), (@PySem.Value.int 181 0), (@PySem.Value.ref 50), @PySem.Value.none, (@PySem.Value.ref 51), (@PySem.Value.ref 52), (@PySem.Value.ref 53), (@PySem.Value.int 242 0), (@PySem.Value.int 8 0), (@PySem.Value.str ("/claim/cut.py" : PySem.Str) 243)]) #[]) :: Prod.mk (nat_lit 57) (@PySem.Obj.mk (@PySem.Value.type "dict") (@Option.none @Nat) (@PySem.Data.dict #[(@PySem.DictEntry.mk (@PySem.PyData.keyHash P ("__module__" : PySem.Str)) (@PySem.Value.str ("__module__" : PySem.Str) 230) (@PySem.Value.str ("tornsectors.errors" : PySem.Str) 187)), (@PySem.DictEntry.mk (@PySem.PyData.keyHash P ("__firstlineno__" : PySem.Str)) (@PySem.Value.str ("__firstlineno__" : PySem.Str) 234) (@PySem.Value.int 6 233)), (@PySem.DictEntry.mk (@PySem.PyData.keyHash P ("__init__" : PySem.Str)) (@PySem.Value.str ("__init__" : PySem.Str) 244) (@PySem.Value.ref 55)), (@PySem.DictEntry.mk (@PySem.PyData.keyHash P ("__static_attributes__" : PySem.Str)) (@PySem.Value.str ("__static_attributes__" : PySem.Str) 247) (@PySem.Value.ref 56)), (@PySem.DictEntry.mk (@PySem.PyData.keyHash P ("__doc__" : PySem.Str)) (@PySem.Value.str ("__doc__" : PySem.Str) 249) @PySem.Value.none)] 3) #[]) :: Prod.mk (nat_lit 58) (@PySem.Obj.mk (@PySem.Value.type "type") (@Option.none @Nat) (@PySem.Data.cls (@PySem.ClassData.mk ("BadPlan" : PySem.Str) [(@PySem.Value.ref 24)] [(@PySem.Value.ref 58), (@PySem.Value.ref 24), (@PySem.Value.type "ValueError"), (@PySem.Value.type "Exception"), (@PySem.Value.type "BaseException"), (@PySem.Value.type "object")] 57 ("BadPlan" : PySem.Str) @Bool.true [] [] @Bool.false (@Option.none @Bool) @Bool.false)) #[(@Option.some @PySem.Value (@PySem.Value.ref 40)), (@Option.none @PySem.Value), (@Option.some @PySem.Value (@PySem.Value.str ("BadPlan" : PySem.Str) 223)), (@Option.some @PySem.Value (@PySem.Value.str ("BadPlan" : PySem.Str) 231)), (@Option.some @PySem.Value (@PySem.Value.builtin "ValueError.__new__")), (@Option.some @PySem.Value (@PySem.Value.bool @Bool.true))]) :: Prod.mk (nat_lit 66) (@PySem.Obj.mk (@PySem.Value.type "code") (@Option.none @Nat) (@PySem.Data.fields #[(@PySem.Value.str ("is_integer" : PySem.Str) 262), (@PySem.Value.str ("is_integer" : PySem.Str) 263), (@PySem.Value.str ("/claim/cut.py" : PySem.Str) 264), (@PySem.Value.int 16 0), (@PySem.Value.int 1 0), (@PySem.Value.int 0 0), (@PySem.Value.int 0 0), (@PySem.Value.int 3 0), (@PySem.Value.ref 61), (@PySem.Value.bool @Bool.true), (@PySem.Value.int 181 0), (@PySem.Value.ref 62), @PySem.Value.none, (@PySem.Value.ref 63), (@PySem.Value.ref 64), (@PySem.Value.ref 65), (@PySem.Value.int 266 0), (@PySem.Value.int 16 0), (@PySem.Value.str ("/claim/cut.py" : PySem.Str) 267)]) #[]) :: Prod.mk (nat_lit 67) (@PySem.Obj.mk (@PySem.Value.type "function") (@Option.none @Nat) (@PySem.Data.func (PySem.W.fnOf "is_integer" "is_integer" (defArgs (topS 8)) (defBody (topS 8)) (defScope (topS 8)) .none @PySem.Value.none @PySem.Value.none (@PySem.Value.str ("tornsectors.checks" : PySem.Str) 252) (@Option.none @Nat) (@PySem.Value.ref 66) @PySem.Value.none)) #[]) :: Prod.mk (nat_lit 73) (@PySem.Obj.mk (@PySem.Value.type "code") (@Option.none @Nat) (@PySem.Data.fields #[(@PySem.Value.str ("is_between" : PySem.Str) 269), (@PySem.Value.str ("is_between" : PySem.Str) 270), (@PySem.Value.str ("/claim/cut.py" : PySem.Str) 271), (@PySem.Value.int 18 0), (@PySem.Value.int 3 0), (@PySem.Value.int 0 0), (@PySem.Value.int 0 0), (@PySem.Value.int 3 0), (@PySem.Value.ref 68), (@PySem.Value.bool @Bool.true), (@PySem.Value.int 181 0), (@PySem.Value.ref 69), @PySem.Value.none, (@PySem.Value.ref 70), (@PySem.Value.ref 71), (@PySem.Value.ref 72), (@PySem.Value.int 275 0), (@PySem.Value.int 18 0), (@PySem.Value.str ("/claim/cut.py" : PySem.Str) 276)]) #[]) :: Prod.mk (nat_lit 74) (@PySem.Obj.mk (@PySem.Value.type "function") (@Option.none @Nat) (@PySem.Data.func (PySem.W.fnOf "is_between" "is_between" (defArgs (topS 9)) (defBody (topS 9)) (defScope (topS 9)) .none @PySem.Value.none @PySem.Value.none (@PySem.Value.str ("tornsectors.checks" : PySem.Str) 252) (@Option.none @Nat) (@PySem.Value.ref 73) @PySem.Value.none)) #[]) :: Prod.mk (nat_lit 80) (@PySem.Obj.mk (@PySem.Value.type "code") (@Option.none @Nat) (@PySem.Data.fields #[(@PySem.Value.str ("is_index" : PySem.Str) 278), (@PySem.Value.str ("is_index" : PySem.Str) 279), (@PySem.Value.str ("/claim/cut.py" : PySem.Str) 280), (@PySem.Value.int 20 0), (@PySem.Value.int 2 0), (@PySem.Value.int 0 0), (@PySem.Value.int 0 0), (@PySem.Value.int 3 0), (@PySem.Value.ref 75), (@PySem.Value.bool @Bool.true), (@PySem.Value.int 181 0), (@PySem.Value.ref 76), @PySem.Value.none, (@PySem.Value.ref 77), (@PySem.Value.ref 78), (@PySem.Value.ref 79), (@PySem.Value.int 283 0), (@PySem.Value.int 20 0), (@PySem.Value.str ("/claim/cut.py" : PySem.Str) 284)]) #[]) :: Prod.mk (nat_lit 81) (@PySem.Obj.mk (@PySem.Value.type "function") (@Option.none @Nat) (@PySem.Data.func (PySem.W.fnOf "is_index" "is_index" (defArgs (topS 10)) (defBody (topS 10)) (defScope (topS 10)) .none @PySem.Value.none @PySem.Value.none (@PySem.Value.str ("tornsectors.checks" : PySem.Str) 252) (@Option.none @Nat) (@PySem.Value.ref 80) @PySem.Value.none)) #[]) :: Prod.mk (nat_lit 85) (@PySem.Obj.mk (@PySem.Value.type "code") (@Option.none @Nat) (@PySem.Data.fields #[(@PySem.Value.str ("is_value" : PySem.Str) 286), (@PySem.Value.str ("is_value" : PySem.Str) 287), (@PySem.Value.str ("/claim/cut.py" : PySem.Str) 288), (@PySem.Value.int 22 0), (@PySem.Value.int 1 0), (@PySem.Value.int 0 0), (@PySem.Value.int 0 0), (@PySem.Value.int 3 0), (@PySem.Value.ref 82), (@PySem.Value.bool @Bool.true), (@PySem.Value.int 181 0), (@PySem.Value.ref 83), @PySem.Value.none, @PySem.Value.none, @PySem.Value.none, (@PySem.Value.ref 84), (@PySem.Value.int 289 0), (@PySem.Value.int 22 0), (@PySem.Value.str ("/claim/cut.py" : PySem.Str) 290)]) #[]) :: Prod.mk (nat_lit 86) (@PySem.Obj.mk (@PySem.Value.type "function") (@Option.none @Nat) (@PySem.Data.func (PySem.W.fnOf "is_value" "is_value" (defArgs (topS 11)) (defBody (topS 11)) (defScope (topS 11)) .none @PySem.Value.none @PySem.Value.none (@PySem.Value.str ("tornsectors.checks" : PySem.Str) 252) (@Option.none @Nat) (@PySem.Value.ref 85) @PySem.Value.none)) #[]) :: Prod.mk (nat_lit 92) (@PySem.Obj.mk (@PySem.Value.type "code") (@Option.none @Nat) (@PySem.Data.fields #[(@PySem.Value.str ("is_held" : PySem.Str) 292), (@PySem.Value.str ("is_held" : PySem.Str) 293), (@PySem.Value.str ("/claim/cut.py" : PySem.Str) 294), (@PySem.Value.int 26 0), (@PySem.Value.int 1 0), (@PySem.Value.int 0 0), (@PySem.Value.int 0 0), (@PySem.Value.int 3 0), (@PySem.Value.ref 87), (@PySem.Value.bool @Bool.true), (@PySem.Value.int 181 0), (@PySem.Value.ref 88), @PySem.Value.none, (@PySem.Value.ref 89), (@PySem.Value.ref 90), (@PySem.Value.ref 91), (@PySem.Value.int 296 0), (@PySem.Value.int 26 0), (@PySem.Value.str ("/claim/cut.py" : PySem.Str) 297)]) #[]) :: Prod.mk (nat_lit 93) (@PySem.Obj.mk (@PySem.Value.type "function") (@Option.none @Nat) (@PySem.Data.func (PySem.W.fnOf "is_held" "is_held" (defArgs (topS 12)) (defBody (topS 12)) (defScope (topS 12)) .none @PySem.Value.none @PySem.Value.none (@PySem.Value.str ("tornsectors.checks" : PySem.Str) 252) (@Option.none @Nat) (@PySem.Value.ref 92) @PySem.Value.none)) #[]) :: Prod.mk (nat_lit 97) (@PySem.Obj.mk (@PySem.Value.type "code") (@Option.none @Nat) (@PySem.Data.fields #[(@PySem.Value.str ("is_state" : PySem.Str) 299), (@PySem.Value.str ("is_state" : PySem.Str) 300), (@PySem.Value.str ("/claim/cut.py" : PySem.Str) 301), (@PySem.Value.int 28 0), (@PySem.Value.int 1 0), (@PySem.Value.int 0 0), (@PySem.Value.int 0 0), (@PySem.Value.int 3 0), (@PySem.Value.ref 94), (@PySem.Value.bool @Bool.true), (@PySem.Value.int 181 0), (@PySem.Value.ref 95), @PySem.Value.none, @PySem.Value.none, @PySem.Value.none, (@PySem.Value.ref 96), (@PySem.Value.int 302 0), (@PySem.Value.int 28 0), (@PySem.Value.str ("/claim/cut.py" : PySem.Str) 303)]) #[]) :: Prod.mk (nat_lit 98) (@PySem.Obj.mk (@PySem.Value.type "function") (@Option.none @Nat) (@PySem.Data.func (PySem.W.fnOf "is_state" "is_state" (defArgs (topS 13)) (defBody (topS 13)) (defScope (topS 13)) .none @PySem.Value.none @PySem.Value.none (@PySem.Value.str ("tornsectors.checks" : PySem.Str) 252) (@Option.none @Nat) (@PySem.Value.ref 97) @PySem.Value.none)) #[]) :: Prod.mk (nat_lit 104) (@PySem.Obj.mk (@PySem.Value.type "code") (@Option.none @Nat) (@PySem.Data.fields #[(@PySem.Value.str ("is_disk_step" : PySem.Str) 307), (@PySem.Value.str ("is_disk_step" : PySem.Str) 308), (@PySem.Value.str ("/claim/cut.py" : PySem.Str) 309), (@PySem.Value.int 31 0), (@PySem.Value.int 2 0), (@PySem.Value.int 0 0), (@PySem.Value.int 0 0), (@PySem.Value.int 3 0), (@PySem.Value.ref 99), (@PySem.Value.bool @Bool.true), (@PySem.Value.int 181 0), (@PySem.Value.ref 100), @PySem.Value.none, (@PySem.Value.ref 101), (@PySem.Value.ref 102), (@PySem.Value.ref 103), (@PySem.Value.int 312 0), (@PySem.Value.int 31 0), (@PySem.Value.str ("/claim/cut.py" : PySem.Str) 313)]) #[]) :: Prod.mk (nat_lit 105) (@PySem.Obj.mk (@PySem.Value.type "function") (@Option.none @Nat) (@PySem.Data.func (PySem.W.fnOf "is_disk_step" "is_disk_step" (defArgs (topS 15)) (defBody (topS 15)) (defScope (topS 15)) .none @PySem.Value.none @PySem.Value.none (@PySem.Value.str ("tornsectors.readers" : PySem.Str) 305) (@Option.none @Nat) (@PySem.Value.ref 104) @PySem.Value.none)) #[]) :: Prod.mk (nat_lit 111) (@PySem.Obj.mk (@PySem.Value.type "code") (@Option.none @Nat) (@PySem.Data.fields #[(@PySem.Value.str ("is_deed_step" : PySem.Str) 319), (@PySem.Value.str ("is_deed_step" : PySem.Str) 320), (@PySem.Value.str ("/claim/cut.py" : PySem.Str) 321), (@PySem.Value.int 39 0), (@PySem.Value.int 1 0), (@PySem.Value.int 0 0), (@PySem.Value.int 0 0), (@PySem.Value.int 3 0), (@PySem.Value.ref 106), (@PySem.Value.bool @Bool.true), (@PySem.Value.int 181 0), (@PySem.Value.ref 107), @PySem.Value.none, (@PySem.Value.ref 108), (@PySem.Value.ref 109), (@PySem.Value.ref 110), (@PySem.Value.int 323 0), (@PySem.Value.int 39 0), (@PySem.Value.str ("/claim/cut.py" : PySem.Str) 324)]) #[]) :: Prod.mk (nat_lit 112) (@PySem.Obj.mk (@PySem.Value.type "function") (@Option.none @Nat) (@PySem.Data.func (PySem.W.fnOf "is_deed_step" "is_deed_step" (defArgs (topS 18)) (defBody (topS 18)) (defScope (topS 18)) .none @PySem.Value.none @PySem.Value.none (@PySem.Value.str ("tornsectors.plans" : PySem.Str) 315) (@Option.none @Nat) (@PySem.Value.ref 111) @PySem.Value.none)) #[]) :: Prod.mk (nat_lit 125) (@PySem.Obj.mk (@PySem.Value.type "code") (@Option.none @Nat) (@PySem.Data.fields #[(@PySem.Value.str ("__init__" : PySem.Str) 338), (@PySem.Value.str ("Plan.__init__" : PySem.Str) 339), (@PySem.Value.str ("/claim/cut.py" : PySem.Str) 340), (@PySem.Value.int 43 0), (@PySem.Value.int 3 0), (@PySem.Value.int 0 0), (@PySem.Value.int 0 0), (@PySem.Value.int 3 0), (@PySem.Value.ref 120), (@PySem.Value.bool @Bool.true), (@PySem.Value.int 181 0), (@PySem.Value.ref 121), @PySem.Value.none, (@PySem.Value.ref 122), (@PySem.Value.ref 123), (@PySem.Value.ref 124), (@PySem.Value.int 347 0), (@PySem.Value.int 43 0), (@PySem.Value.str ("/claim/cut.py" : PySem.Str) 348)]) #[]) :: Prod.mk (nat_lit 126) (@PySem.Obj.mk (@PySem.Value.type "function") (@Option.none @Nat) (@PySem.Data.func (PySem.W.fnOf "__init__" "Plan.__init__" (defArgs (inClass (topS 19) 0)) (defBody (inClass (topS 19) 0)) (defScope (inClass (topS 19) 0)) .none @PySem.Value.none @PySem.Value.none (@PySem.Value.str ("tornsectors.plans" : PySem.Str) 315) (@Option.none @Nat) (@PySem.Value.ref 125) @PySem.Value.none)) #[]) :: Prod.mk (nat_lit 132) (@PySem.Obj.mk (@PySem.Value.type "code") (@Option.none @Nat) (@PySem.Data.fields #[(@PySem.Value.str ("keep" : PySem.Str) 350), (@PySem.Value.str ("Plan.keep" : PySem.Str) 351), (@PySem.Value.str ("/claim/cut.py" : PySem.Str) 352), (@PySem.Value.int 57 0), (@PySem.Value.int 3 0), (@PySem.Value.int 0 0), (@PySem.Value.int 0 0), (@PySem.Value.int 3 0), (@PySem.Value.ref 127), (@PySem.Value.bool @Bool.true), (@PySem.Value.int 181 0), (@PySem.Value.ref 128), @PySem.Value.none, (@PySem.Value.ref 129), (@PySem.Value.ref 130), (@PySem.Value.ref 131), (@PySem.Value.int 356 0), (@PySem.Value.int 57 0), (@PySem.Value.str ("/claim/cut.py" : PySem.Str) 357)]) #[]) :: Prod.mk (nat_lit 133) (@PySem.Obj.mk (@PySem.Value.type "function") (@Option.none @Nat) (@PySem.Data.func (PySem.W.fnOf "keep" "Plan.keep" (defArgs (inClass (topS 19) 1)) (defBody (inClass (topS 19) 1)) (defScope (inClass (topS 19) 1)) .none @PySem.Value.none @PySem.Value.none (@PySem.Value.str ("tornsectors.plans" : PySem.Str) 315) (@Option.none @Nat) (@PySem.Value.ref 132) @PySem.Value.none)) #[]) :: Prod.mk (nat_lit 139) (@PySem.Obj.mk (@PySem.Value.type "code") (@Option.none @Nat) (@PySem.Data.fields #[(@PySem.Value.str ("state" : PySem.Str) 359), (@PySem.Value.str ("Plan.state" : PySem.Str) 360), (@PySem.Value.str ("/claim/cut.py" : PySem.Str) 361), (@PySem.Value.int 61 0), (@PySem.Value.int 1 0), (@PySem.Value.int 0 0), (@PySem.Value.int 0 0), (@PySem.Value.int 3 0), (@PySem.Value.ref 134), (@PySem.Value.bool @Bool.true), (@PySem.Value.int 181 0), (@PySem.Value.ref 135), @PySem.Value.none, (@PySem.Value.ref 136), (@PySem.Value.ref 137), (@PySem.Value.ref 138), (@PySem.Value.int 363 0), (@PySem.Value.int 61 0), (@PySem.Value.str ("/claim/cut.py" : PySem.Str) 364)]) #[]) :: Prod.mk (nat_lit 140) (@PySem.Obj.mk (@PySem.Value.type "function") (@Option.none @Nat) (@PySem.Data.func (PySem.W.fnOf "state" "Plan.state" (defArgs (inClass (topS 19) 2)) (defBody (inClass (topS 19) 2)) (defScope (inClass (topS 19) 2)) .none @PySem.Value.none @PySem.Value.none (@PySem.Value.str ("tornsectors.plans" : PySem.Str) 315) (@Option.none @Nat) (@PySem.Value.ref 139) @PySem.Value.none)) #[]) :: Prod.mk (nat_lit 146) (@PySem.Obj.mk (@PySem.Value.type "code") (@Option.none @Nat) (@PySem.Data.fields #[(@PySem.Value.str ("steps" : PySem.Str) 366), (@PySem.Value.str ("Plan.steps" : PySem.Str) 367), (@PySem.Value.str ("/claim/cut.py" : PySem.Str) 368), (@PySem.Value.int 64 0), (@PySem.Value.int 1 0), (@PySem.Value.int 0 0), (@PySem.Value.int 0 0), (@PySem.Value.int 3 0), (@PySem.Value.ref 141), (@PySem.Value.bool @Bool.true), (@PySem.Value.int 181 0), (@PySem.Value.ref 142), @PySem.Value.none, (@PySem.Value.ref 143), (@PySem.Value.ref 144), (@PySem.Value.ref 145), (@PySem.Value.int 370 0), (@PySem.Value.int 64 0), (@PySem.Value.str ("/claim/cut.py" : PySem.Str) 371)]) #[]) :: Prod.mk (nat_lit 147) (@PySem.Obj.mk (@PySem.Value.type "function") (@Option.none @Nat) (@PySem.Data.func (PySem.W.fnOf "steps" "Plan.steps" (defArgs (inClass (topS 19) 3)) (defBody (inClass (topS 19) 3)) (defScope (inClass (topS 19) 3)) .none @PySem.Value.none @PySem.Value.none (@PySem.Value.str ("tornsectors.plans" : PySem.Str) 315) (@Option.none @Nat) (@PySem.Value.ref 146) @PySem.Value.none)) #[]) :: Prod.mk (nat_lit 153) (@PySem.Obj.mk (@PySem.Value.type "code") (@Option.none @Nat) (@PySem.Data.fields #[(@PySem.Value.str ("parts" : PySem.Str) 373), (@PySem.Value.str ("Plan.parts" : PySem.Str) 374), (@PySem.Value.str ("/claim/cut.py" : PySem.Str) 375), (@PySem.Value.int 67 0), (@PySem.Value.int 1 0), (@PySem.Value.int 0 0), (@PySem.Value.int 0 0), (@PySem.Value.int 3 0), (@PySem.Value.ref 148), (@PySem.Value.bool @Bool.true), (@PySem.Value.int 181 0), (@PySem.Value.ref 149), @PySem.Value.none, (@PySem.Value.ref 150), (@PySem.Value.ref 151), (@PySem.Value.ref 152), (@PySem.Value.int 377 0), (@PySem.Value.int 67 0), (@PySem.Value.str ("/claim/cut.py" : PySem.Str) 378)]) #[]) :: Prod.mk (nat_lit 154) (@PySem.Obj.mk (@PySem.Value.type "function") (@Option.none @Nat) (@PySem.Data.func (PySem.W.fnOf "parts" "Plan.parts" (defArgs (inClass (topS 19) 4)) (defBody (inClass (topS 19) 4)) (defScope (inClass (topS 19) 4)) .none @PySem.Value.none @PySem.Value.none (@PySem.Value.str ("tornsectors.plans" : PySem.Str) 315) (@Option.none @Nat) (@PySem.Value.ref 153) @PySem.Value.none)) #[]) :: Prod.mk (nat_lit 160) (@PySem.Obj.mk (@PySem.Value.type "code") (@Option.none @Nat) (@PySem.Data.fields #[(@PySem.Value.str ("__eq__" : PySem.Str) 380), (@PySem.Value.str ("Plan.__eq__" : PySem.Str) 381), (@PySem.Value.str ("/claim/cut.py" : PySem.Str) 382), (@PySem.Value.int 70 0), (@PySem.Value.int 2 0), (@PySem.Value.int 0 0), (@PySem.Value.int 0 0), (@PySem.Value.int 3 0), (@PySem.Value.ref 155), (@PySem.Value.bool @Bool.true), (@PySem.Value.int 181 0), (@PySem.Value.ref 156), @PySem.Value.none, (@PySem.Value.ref 157), (@PySem.Value.ref 158), (@PySem.Value.ref 159), (@PySem.Value.int 385 0), (@PySem.Value.int 70 0), (@PySem.Value.str ("/claim/cut.py" : PySem.Str) 386)]) #[]) :: Prod.mk (nat_lit 161) (@PySem.Obj.mk (@PySem.Value.type "function") (@Option.none @Nat) (@PySem.Data.func (PySem.W.fnOf "__eq__" "Plan.__eq__" (defArgs (inClass (topS 19) 5)) (defBody (inClass (topS 19) 5)) (defScope (inClass (topS 19) 5)) .none @PySem.Value.none @PySem.Value.none (@PySem.Value.str ("tornsectors.plans" : PySem.Str) 315) (@Option.none @Nat) (@PySem.Value.ref 160) @PySem.Value.none)) #[]) :: Prod.mk (nat_lit 163) (@PySem.Obj.mk (@PySem.Value.type "dict") (@Option.none @Nat) (@PySem.Data.dict #[(@PySem.DictEntry.mk (@PySem.PyData.keyHash P ("__module__" : PySem.Str)) (@PySem.Value.str ("__module__" : PySem.Str) 333) (@PySem.Value.str ("tornsectors.plans" : PySem.Str) 315)), (@PySem.DictEntry.mk (@PySem.PyData.keyHash P ("__firstlineno__" : PySem.Str)) (@PySem.Value.str ("__firstlineno__" : PySem.Str) 337) (@PySem.Value.int 41 336)), (@PySem.DictEntry.mk (@PySem.PyData.keyHash P ("__init__" : PySem.Str)) (@PySem.Value.str ("__init__" : PySem.Str) 349) (@PySem.Value.ref 126)), (@PySem.DictEntry.mk (@PySem.PyData.keyHash P ("keep" : PySem.Str)) (@PySem.Value.str ("keep" : PySem.Str) 358) (@PySem.Value.ref 133)), (@PySem.DictEntry.mk (@PySem.PyData.keyHash P ("state" : PySem.Str)) (@PySem.Value.str ("state" : PySem.Str) 365) (@PySem.Value.ref 140)), (@PySem.DictEntry.mk (@PySem.PyData.keyHash P ("steps" : PySem.Str)) (@PySem.Value.str ("steps" : PySem.Str) 372) (@PySem.Value.ref 147)), (@PySem.DictEntry.mk (@PySem.PyData.keyHash P ("parts" : PySem.Str)) (@PySem.Value.str ("parts" : PySem.Str) 379) (@PySem.Value.ref 154)), (@PySem.DictEntry.mk (@PySem.PyData.keyHash P ("__eq__" : PySem.Str)) (@PySem.Value.str ("__eq__" : PySem.Str) 387) (@PySem.Value.ref 161)), (@PySem.DictEntry.mk (@PySem.PyData.keyHash P ("__static_attributes__" : PySem.Str)) (@PySem.Value.str ("__static_attributes__" : PySem.Str) 390) (@PySem.Value.ref 162)), (@PySem.DictEntry.mk (@PySem.PyData.keyHash P ("__dict__" : PySem.Str)) (@PySem.Value.str ("__dict__" : PySem.Str) 392) (@PySem.Value.ref 165)), (@PySem.DictEntry.mk (@PySem.PyData.keyHash P ("__weakref__" : PySem.Str)) (@PySem.Value.str ("__weakref__" : PySem.Str) 394) (@PySem.Value.ref 166)), (@PySem.DictEntry.mk (@PySem.PyData.keyHash P ("__doc__" : PySem.Str)) (@PySem.Value.str ("__doc__" : PySem.Str) 395) @PySem.Value.none), (@PySem.DictEntry.mk (@PySem.PyData.keyHash P ("__hash__" : PySem.Str)) (@PySem.Value.str ("__hash__" : PySem.Str) 396) @PySem.Value.none)] 5) #[]) :: Prod.mk (nat_lit 164) (@PySem.Obj.mk (@PySem.Value.type "type") (@Option.none @Nat) (@PySem.Data.cls (@PySem.ClassData.mk ("Plan" : PySem.Str) [(@PySem.Value.type "object")] [(@PySem.Value.ref 164), (@PySem.Value.type "object")] 163 ("Plan" : PySem.Str) @Bool.true [] [(@PySem.Value.ref 185)] @Bool.false (@Option.none @Bool) @Bool.false)) #[(@Option.none @PySem.Value), (@Option.none @PySem.Value), (@Option.some @PySem.Value (@PySem.Value.str ("Plan" : PySem.Str) 326)), (@Option.some @PySem.Value (@PySem.Value.str ("Plan" : PySem.Str) 334)), (@Option.some @PySem.Value (@PySem.Value.builtin "object.__new__")), (@Option.some @PySem.Value (@PySem.Value.bool @Bool.true))]) :: Prod.mk (nat_lit 165) (@PySem.Obj.mk (@PySem.Value.type "getset_descriptor") (@Option.none @Nat) (@PySem.Data.fields #[(@PySem.Value.str ("__dict__" : PySem.Str) 391), (@PySem.Value.ref 164), (@PySem.Value.builtin "function.__dict__"), (@PySem.Value.builtin "function.__dict__#set")]) #[]) :: Prod.mk (nat_lit 166) (@PySem.Obj.mk (@PySem.Value.type "getset_descriptor") (@Option.none @Nat) (@PySem.Data.fields #[(@PySem.Value.str ("__weakref__" : PySem.Str) 393), (@PySem.Value.ref 164), (@PySem.Value.builtin "ExceptionGroup.__weakref__"), @PySem.Value.none]) #[]) :: Prod.mk (nat_lit 181) (@PySem.Obj.mk (@PySem.Value.type "code") (@Option.none @Nat) (@PySem.Data.fields #[(@PySem.Value.str ("__init__" : PySem.Str) 411), (@PySem.Value.str ("RawPlan.__init__" : PySem.Str) 412), (@PySem.Value.str ("/claim/cut.py" : PySem.Str) 413), (@PySem.Value.int 74 0), (@PySem.Value.int 3 0), (@PySem.Value.int 0 0), (@PySem.Value.int 0 0), (@PySem.Value.int 3 0), (@PySem.Value.ref 176), (@PySem.Value.bool @Bool.true), (@PySem.Value.int 181 0), (@PySem.Value.ref 177), @PySem.Value.none, (@PySem.Value.ref 178), (@PySem.Value.ref 179), (@PySem.Value.ref 180), (@PySem.Value.int 417 0), (@PySem.Value.int 74 0), (@PySem.Value.str ("/claim/cut.py" : PySem.Str) 418)]) #[]) :: Prod.mk (nat_lit 182) (@PySem.Obj.mk (@PySem.Value.type "function") (@Option.none @Nat) (@PySem.Data.func (PySem.W.fnOf "__init__" "RawPlan.__init__" (defArgs (inClass (topS 20) 0)) (defBody (inClass (topS 20) 0)) (defScope (inClass (topS 20) 0)) .none @PySem.Value.none @PySem.Value.none (@PySem.Value.str ("tornsectors.plans" : PySem.Str) 315) (@Option.none @Nat) (@PySem.Value.ref 181) @PySem.Value.none)) #[]) :: Prod.mk (nat_lit 184) (@PySem.Obj.mk (@PySem.Value.type "dict") (@Option.none @Nat) (@PySem.Data.dict #[(@PySem.DictEntry.mk (@PySem.PyData.keyHash P ("__module__" : PySem.Str)) (@PySem.Value.str ("__module__" : PySem.Str) 406) (@PySem.Value.str ("tornsectors.plans" : PySem.Str) 315)), (@PySem.DictEntry.mk (@PySem.PyData.keyHash P ("__firstlineno__" : PySem.Str)) (@PySem.Value.str ("__firstlineno__" : PySem.Str) 410) (@PySem.Value.int 72 409)), (@PySem.DictEntry.mk (@PySem.PyData.keyHash P ("__init__" : PySem.Str)) (@PySem.Value.str ("__init__" : PySem.Str) 419) (@PySem.Value.ref 182)), (@PySem.DictEntry.mk (@PySem.PyData.keyHash P ("__static_attributes__" : PySem.Str)) (@PySem.Value.str ("__static_attributes__" : PySem.Str) 420) (@PySem.Value.ref 183)), (@PySem.DictEntry.mk (@PySem.PyData.keyHash P ("__doc__" : PySem.Str)) (@PySem.Value.str ("__doc__" : PySem.Str) 421) @PySem.Value.none)] 2) #[]) :: Prod.mk (nat_lit 185) (@PySem.Obj.mk (@PySem.Value.type "type") (@Option.none @Nat) (@PySem.Data.cls (@PySem.ClassData.mk ("RawPlan" : PySem.Str) [(@PySem.Value.ref 164)] [(@PySem.Value.ref 185), (@PySem.Value.ref 164), (@PySem.Value.type "object")] 184 ("RawPlan" : PySem.Str) @Bool.true [] [] @Bool.false (@Option.none @Bool) @Bool.false)) #[(@Option.some @PySem.Value (@PySem.Value.ref 169)), (@Option.none @PySem.Value), (@Option.some @PySem.Value (@PySem.Value.str ("RawPlan" : PySem.Str) 399)), (@Option.some @PySem.Value (@PySem.Value.str ("RawPlan" : PySem.Str) 407)), (@Option.some @PySem.Value (@PySem.Value.builtin "object.__new__")), (@Option.some @PySem.Value (@PySem.Value.bool @Bool.true))]) :: Prod.mk (nat_lit 191) (@PySem.Obj.mk (@PySem.Value.type "code") (@Option.none @Nat) (@PySem.Data.fields #[(@PySem.Value.str ("bare_steps" : PySem.Str) 426), (@PySem.Value.str ("bare_steps" : PySem.Str) 427), (@PySem.Value.str ("/claim/cut.py" : PySem.Str) 428), (@PySem.Value.int 77 0), (@PySem.Value.int 1 0), (@PySem.Value.int 0 0), (@PySem.Value.int 0 0), (@PySem.Value.int 3 0), (@PySem.Value.ref 188), (@PySem.Value.bool @Bool.true), (@PySem.Value.int 181 0), (@PySem.Value.ref 189), @PySem.Value.none, @PySem.Value.none, @PySem.Value.none, (@PySem.Value.ref 190), (@PySem.Value.int 429 0), (@PySem.Value.int 77 0), (@PySem.Value.str ("/claim/cut.py" : PySem.Str) 430)]) #[]) :: Prod.mk (nat_lit 192) (@PySem.Obj.mk (@PySem.Value.type "function") (@Option.none @Nat) (@PySem.Data.func (PySem.W.fnOf "bare_steps" "bare_steps" (defArgs (topS 22)) (defBody (topS 22)) (defScope (topS 22)) .none @PySem.Value.none @PySem.Value.none (@PySem.Value.str ("tornsectors.barriers" : PySem.Str) 424) (@Option.none @Nat) (@PySem.Value.ref 191) @PySem.Value.none)) #[]) :: Prod.mk (nat_lit 198) (@PySem.Obj.mk (@PySem.Value.type "code") (@Option.none @Nat) (@PySem.Data.fields #[(@PySem.Value.str ("bare" : PySem.Str) 432), (@PySem.Value.str ("bare" : PySem.Str) 433), (@PySem.Value.str ("/claim/cut.py" : PySem.Str) 434), (@PySem.Value.int 79 0), (@PySem.Value.int 1 0), (@PySem.Value.int 0 0), (@PySem.Value.int 0 0), (@PySem.Value.int 3 0), (@PySem.Value.ref 193), (@PySem.Value.bool @Bool.true), (@PySem.Value.int 181 0), (@PySem.Value.ref 194), @PySem.Value.none, (@PySem.Value.ref 195), (@PySem.Value.ref 196), (@PySem.Value.ref 197), (@PySem.Value.int 436 0), (@PySem.Value.int 79 0), (@PySem.Value.str ("/claim/cut.py" : PySem.Str) 437)]) #[]) :: Prod.mk (nat_lit 199) (@PySem.Obj.mk (@PySem.Value.type "function") (@Option.none @Nat) (@PySem.Data.func (PySem.W.fnOf "bare" "bare" (defArgs (topS 23)) (defBody (topS 23)) (defScope (topS 23)) .none @PySem.Value.none @PySem.Value.none (@PySem.Value.str ("tornsectors.barriers" : PySem.Str) 424) (@Option.none @Nat) (@PySem.Value.ref 198) @PySem.Value.none)) #[]) :: Prod.mk (nat_lit 205) (@PySem.Obj.mk (@PySem.Value.type "code") (@Option.none @Nat) (@PySem.Data.fields #[(@PySem.Value.str ("places_of" : PySem.Str) 439), (@PySem.Value.str ("places_of" : PySem.Str) 440), (@PySem.Value.str ("/claim/cut.py" : PySem.Str) 441), (@PySem.Value.int 81 0), (@PySem.Value.int 1 0), (@PySem.Value.int 0 0), (@PySem.Value.int 0 0), (@PySem.Value.int 3 0), (@PySem.Value.ref 200), (@PySem.Value.bool @Bool.true), (@PySem.Value.int 181 0), (@PySem.Value.ref 201), @PySem.Value.none, (@PySem.Value.ref 202), (@PySem.Value.ref 203), (@PySem.Value.ref 204), (@PySem.Value.int 446 0), (@PySem.Value.int 81 0), (@PySem.Value.str ("/claim/cut.py" : PySem.Str) 447)]) #[]) :: Prod.mk (nat_lit 206) (@PySem.Obj.mk (@PySem.Value.type "function") (@Option.none @Nat) (@PySem.Data.func (PySem.W.fnOf "places_of" "places_of" (defArgs (topS 24)) (defBody (topS 24)) (defScope (topS 24)) .none @PySem.Value.none @PySem.Value.none (@PySem.Value.str ("tornsectors.barriers" : PySem.Str) 424) (@Option.none @Nat) (@PySem.Value.ref 205) @PySem.Value.none)) #[]) :: Prod.mk (nat_lit 212) (@PySem.Obj.mk (@PySem.Value.type "code") (@Option.none @Nat) (@PySem.Data.fields #[(@PySem.Value.str ("places" : PySem.Str) 449), (@PySem.Value.str ("places" : PySem.Str) 450), (@PySem.Value.str ("/claim/cut.py" : PySem.Str) 451), (@PySem.Value.int 90 0), (@PySem.Value.int 1 0), (@PySem.Value.int 0 0), (@PySem.Value.int 0 0), (@PySem.Value.int 3 0), (@PySem.Value.ref 207), (@PySem.Value.bool @Bool.true), (@PySem.Value.int 181 0), (@PySem.Value.ref 208), @PySem.Value.none, (@PySem.Value.ref 209), (@PySem.Value.ref 210), (@PySem.Value.ref 211), (@PySem.Value.int 453 0), (@PySem.Value.int 90 0), (@PySem.Value.str ("/claim/cut.py" : PySem.Str) 454)]) #[]) :: Prod.mk (nat_lit 213) (@PySem.Obj.mk (@PySem.Value.type "function") (@Option.none @Nat) (@PySem.Data.func (PySem.W.fnOf "places" "places" (defArgs (topS 25)) (defBody (topS 25)) (defScope (topS 25)) .none @PySem.Value.none @PySem.Value.none (@PySem.Value.str ("tornsectors.barriers" : PySem.Str) 424) (@Option.none @Nat) (@PySem.Value.ref 212) @PySem.Value.none)) #[]) :: Prod.mk (nat_lit 217) (@PySem.Obj.mk (@PySem.Value.type "code") (@Option.none @Nat) (@PySem.Data.fields #[(@PySem.Value.str ("check_places" : PySem.Str) 456), (@PySem.Value.str ("check_places" : PySem.Str) 457), (@PySem.Value.str ("/claim/cut.py" : PySem.Str) 458), (@PySem.Value.int 92 0), (@PySem.Value.int 2 0), (@PySem.Value.int 0 0), (@PySem.Value.int 0 0), (@PySem.Value.int 3 0), (@PySem.Value.ref 214), (@PySem.Value.bool @Bool.true), (@PySem.Value.int 181 0), (@PySem.Value.ref 215), @PySem.Value.none, @PySem.Value.none, @PySem.Value.none, (@PySem.Value.ref 216), (@PySem.Value.int 459 0), (@PySem.Value.int 92 0), (@PySem.Value.str ("/claim/cut.py" : PySem.Str) 460)]) #[]) :: Prod.mk (nat_lit 218) (@PySem.Obj.mk (@PySem.Value.type "function") (@Option.none @Nat) (@PySem.Data.func (PySem.W.fnOf "check_places" "check_places" (defArgs (topS 26)) (defBody (topS 26)) (defScope (topS 26)) .none @PySem.Value.none @PySem.Value.none (@PySem.Value.str ("tornsectors.barriers" : PySem.Str) 424) (@Option.none @Nat) (@PySem.Value.ref 217) @PySem.Value.none)) #[]) :: Prod.mk (nat_lit 224) (@PySem.Obj.mk (@PySem.Value.type "code") (@Option.none @Nat) (@PySem.Data.fields #[(@PySem.Value.str ("with_barriers" : PySem.Str) 462), (@PySem.Value.str ("with_barriers" : PySem.Str) 463), (@PySem.Value.str ("/claim/cut.py" : PySem.Str) 464), (@PySem.Value.int 98 0), (@PySem.Value.int 2 0), (@PySem.Value.int 0 0), (@PySem.Value.int 0 0), (@PySem.Value.int 3 0), (@PySem.Value.ref 219), (@PySem.Value.bool @Bool.true), (@PySem.Value.int 181 0), (@PySem.Value.ref 220), @PySem.Value.none, (@PySem.Value.ref 221), (@PySem.Value.ref 222), (@PySem.Value.ref 223), (@PySem.Value.int 470 0), (@PySem.Value.int 98 0), (@PySem.Value.str ("/claim/cut.py" : PySem.Str) 471)]) #[]) :: Prod.mk (nat_lit 225) (@PySem.Obj.mk (@PySem.Value.type "function") (@Option.none @Nat) (@PySem.Data.func (PySem.W.fnOf "with_barriers" "with_barriers" (defArgs (topS 27)) (defBody (topS 27)) (defScope (topS 27)) .none @PySem.Value.none @PySem.Value.none (@PySem.Value.str ("tornsectors.barriers" : PySem.Str) 424) (@Option.none @Nat) (@PySem.Value.ref 224) @PySem.Value.none)) #[]) :: Prod.mk (nat_lit 229) (@PySem.Obj.mk (@PySem.Value.type "code") (@Option.none @Nat) (@PySem.Data.fields #[(@PySem.Value.str ("_law_hand" : PySem.Str) 475), (@PySem.Value.str ("_law_hand" : PySem.Str) 476), (@PySem.Value.str ("/claim/cut.py" : PySem.Str) 477), (@PySem.Value.int 108 0), (@PySem.Value.int 1 0), (@PySem.Value.int 0 0), (@PySem.Value.int 0 0), (@PySem.Value.int 3 0), (@PySem.Value.ref 226), (@PySem.Value.bool @Bool.true), (@PySem.Value.int 181 0), (@PySem.Value.ref 227), @PySem.Value.none, @PySem.Value.none, @PySem.Value.none, (@PySem.Value.ref 228), (@PySem.Value.int 478 0), (@PySem.Value.int 108 0), (@PySem.Value.str ("/claim/cut.py" : PySem.Str) 479)]) #[]) :: Prod.mk (nat_lit 230) (@PySem.Obj.mk (@PySem.Value.type "function") (@Option.none @Nat) (@PySem.Data.func (PySem.W.fnOf "_law_hand" "_law_hand" (defArgs (topS 29)) (defBody (topS 29)) (defScope (topS 29)) .none @PySem.Value.none @PySem.Value.none (@PySem.Value.str ("law_tornsectors_k18_whole_plans_and_their_ba" : PySem.Str) 473) (@Option.none @Nat) (@PySem.Value.ref 229) @PySem.Value.none)) #[]) :: Prod.mk (nat_lit 236) (@PySem.Obj.mk (@PySem.Value.type "code") (@Option.none @Nat) (@PySem.Data.fields #[(@PySem.Value.str ("_law_draw" : PySem.Str) 481), (@PySem.Value.str ("_law_draw" : PySem.Str) 482), (@PySem.Value.str ("/claim/cut.py" : PySem.Str) 483), (@PySem.Value.int 111 0), (@PySem.Value.int 2 0), (@PySem.Value.int 0 0), (@PySem.Value.int 0 0), (@PySem.Value.int 3 0), (@PySem.Value.ref 231), (@PySem.Value.bool @Bool.true), (@PySem.Value.int 181 0), (@PySem.Value.ref 232), @PySem.Value.none, (@PySem.Value.ref 233), (@PySem.Value.ref 234), (@PySem.Value.ref 235), (@PySem.Value.int 489 0), (@PySem.Value.int 111 0), (@PySem.Value.str ("/claim/cut.py" : PySem.Str) 490)]) #[]) :: Prod.mk (nat_lit 237) (@PySem.Obj.mk (@PySem.Value.type "function") (@Option.none @Nat) (@PySem.Data.func (PySem.W.fnOf "_law_draw" "_law_draw" (defArgs (topS 30)) (defBody (topS 30)) (defScope (topS 30)) .none @PySem.Value.none @PySem.Value.none (@PySem.Value.str ("law_tornsectors_k18_whole_plans_and_their_ba" : PySem.Str) 473) (@Option.none @Nat) (@PySem.Value.ref 236) @PySem.Value.none)) #[]) :: Prod.mk (nat_lit 241) (@PySem.Obj.mk (@PySem.Value.type "code") (@Option.none @Nat) (@PySem.Data.fields #[(@PySem.Value.str ("_law_value" : PySem.Str) 492), (@PySem.Value.str ("_law_value" : PySem.Str) 493), (@PySem.Value.str ("/claim/cut.py" : PySem.Str) 494), (@PySem.Value.int 127 0), (@PySem.Value.int 1 0), (@PySem.Value.int 0 0), (@PySem.Value.int 0 0), (@PySem.Value.int 3 0), (@PySem.Value.ref 238), (@PySem.Value.bool @Bool.true), (@PySem.Value.int 181 0), (@PySem.Value.ref 239), @PySem.Value.none, @PySem.Value.none, @PySem.Value.none, (@PySem.Value.ref 240), (@PySem.Value.int 495 0), (@PySem.Value.int 127 0), (@PySem.Value.str ("/claim/cut.py" : PySem.Str) 496)]) #[]) :: Prod.mk (nat_lit 242) (@PySem.Obj.mk (@PySem.Value.type "function") (@Option.none @Nat) (@PySem.Data.func (PySem.W.fnOf "_law_value" "_law_value" (defArgs (topS 31)) (defBody (topS 31)) (defScope (topS 31)) .none @PySem.Value.none @PySem.Value.none (@PySem.Value.str ("law_tornsectors_k18_whole_plans_and_their_ba" : PySem.Str) 473) (@Option.none @Nat) (@PySem.Value.ref 241) @PySem.Value.none)) #[]) :: Prod.mk (nat_lit 248) (@PySem.Obj.mk (@PySem.Value.type "code") (@Option.none @Nat) (@PySem.Data.fields #[(@PySem.Value.str ("_law_pool" : PySem.Str) 498), (@PySem.Value.str ("_law_pool" : PySem.Str) 499), (@PySem.Value.str ("/claim/cut.py" : PySem.Str) 500), (@PySem.Value.int 129 0), (@PySem.Value.int 1 0), (@PySem.Value.int 0 0), (@PySem.Value.int 0 0), (@PySem.Value.int 3 0), (@PySem.Value.ref 243), (@PySem.Value.bool @Bool.true), (@PySem.Value.int 181 0), (@PySem.Value.ref 244), @PySem.Value.none, (@PySem.Value.ref 245), (@PySem.Value.ref 246), (@PySem.Value.ref 247), (@PySem.Value.int 505 0), (@PySem.Value.int 129 0), (@PySem.Value.str ("/claim/cut.py" : PySem.Str) 506)]) #[]) :: Prod.mk (nat_lit 249) (@PySem.Obj.mk (@PySem.Value.type "function") (@Option.none @Nat) (@PySem.Data.func (PySem.W.fnOf "_law_pool" "_law_pool" (defArgs (topS 32)) (defBody (topS 32)) (defScope (topS 32)) .none @PySem.Value.none @PySem.Value.none (@PySem.Value.str ("law_tornsectors_k18_whole_plans_and_their_ba" : PySem.Str) 473) (@Option.none @Nat) (@PySem.Value.ref 248) @PySem.Value.none)) #[]) :: Prod.mk (nat_lit 255) (@PySem.Obj.mk (@PySem.Value.type "code") (@Option.none @Nat) (@PySem.Data.fields #[(@PySem.Value.str ("_law_any" : PySem.Str) 508), (@PySem.Value.str ("_law_any" : PySem.Str) 509), (@PySem.Value.str ("/claim/cut.py" : PySem.Str) 510), (@PySem.Value.int 136 0), (@PySem.Value.int 2 0), (@PySem.Value.int 0 0), (@PySem.Value.int 0 0), (@PySem.Value.int 3 0), (@PySem.Value.ref 250), (@PySem.Value.bool @Bool.true), (@PySem.Value.int 181 0), (@PySem.Value.ref 251), @PySem.Value.none, (@PySem.Value.ref 252), (@PySem.Value.ref 253), (@PySem.Value.ref 254), (@PySem.Value.int 513 0), (@PySem.Value.int 136 0), (@PySem.Value.str ("/claim/cut.py" : PySem.Str) 514)]) #[]) :: Prod.mk (nat_lit 256) (@PySem.Obj.mk (@PySem.Value.type "function") (@Option.none @Nat) (@PySem.Data.func (PySem.W.fnOf "_law_any" "_law_any" (defArgs (topS 33)) (defBody (topS 33)) (defScope (topS 33)) .none @PySem.Value.none @PySem.Value.none (@PySem.Value.str ("law_tornsectors_k18_whole_plans_and_their_ba" : PySem.Str) 473) (@Option.none @Nat) (@PySem.Value.ref 255) @PySem.Value.none)) #[]) :: Prod.mk (nat_lit 262) (@PySem.Obj.mk (@PySem.Value.type "code") (@Option.none @Nat) (@PySem.Data.fields #[(@PySem.Value.str ("_law_steps" : PySem.Str) 516), (@PySem.Value.str ("_law_steps" : PySem.Str) 517), (@PySem.Value.str ("/claim/cut.py" : PySem.Str) 518), (@PySem.Value.int 138 0), (@PySem.Value.int 4 0), (@PySem.Value.int 0 0), (@PySem.Value.int 0 0), (@PySem.Value.int 3 0), (@PySem.Value.ref 257), (@PySem.Value.bool @Bool.true), (@PySem.Value.int 181 0), (@PySem.Value.ref 258), @PySem.Value.none, (@PySem.Value.ref 259), (@PySem.Value.ref 260), (@PySem.Value.ref 261), (@PySem.Value.int 527 0), (@PySem.Value.int 138 0), (@PySem.Value.str ("/claim/cut.py" : PySem.Str) 528)]) #[]) :: Prod.mk (nat_lit 263) (@PySem.Obj.mk (@PySem.Value.type "function") (@Option.none @Nat) (@PySem.Data.func (PySem.W.fnOf "_law_steps" "_law_steps" (defArgs (topS 34)) (defBody (topS 34)) (defScope (topS 34)) .none @PySem.Value.none @PySem.Value.none (@PySem.Value.str ("law_tornsectors_k18_whole_plans_and_their_ba" : PySem.Str) 473) (@Option.none @Nat) (@PySem.Value.ref 262) @PySem.Value.none)) #[]) :: Prod.mk (nat_lit 267) (@PySem.Obj.mk (@PySem.Value.type "code") (@Option.none @Nat) (@PySem.Data.fields #[(@PySem.Value.str ("_law_bare" : PySem.Str) 530), (@PySem.Value.str ("_law_bare" : PySem.Str) 531), (@PySem.Value.str ("/claim/cut.py" : PySem.Str) 532), (@PySem.Value.int 154 0), (@PySem.Value.int 1 0), (@PySem.Value.int 0 0), (@PySem.Value.int 0 0), (@PySem.Value.int 3 0), (@PySem.Value.ref 264), (@PySem.Value.bool @Bool.true), (@PySem.Value.int 181 0), (@PySem.Value.ref 265), @PySem.Value.none, @PySem.Value.none, @PySem.Value.none, (@PySem.Value.ref 266), (@PySem.Value.int 533 0), (@PySem.Value.int 154 0), (@PySem.Value.str ("/claim/cut.py" : PySem.Str) 534)]) #[]) :: Prod.mk (nat_lit 268) (@PySem.Obj.mk (@PySem.Value.type "function") (@Option.none @Nat) (@PySem.Data.func (PySem.W.fnOf "_law_bare" "_law_bare" (defArgs (topS 35)) (defBody (topS 35)) (defScope (topS 35)) .none @PySem.Value.none @PySem.Value.none (@PySem.Value.str ("law_tornsectors_k18_whole_plans_and_their_ba" : PySem.Str) 473) (@Option.none @Nat) (@PySem.Value.ref 267) @PySem.Value.none)) #[]) :: Prod.mk (nat_lit 274) (@PySem.Obj.mk (@PySem.Value.type "code") (@Option.none @Nat) (@PySem.Data.fields #[(@PySem.Value.str ("_law_with" : PySem.Str) 536), (@PySem.Value.str ("_law_with" : PySem.Str) 537), (@PySem.Value.str ("/claim/cut.py" : PySem.Str) 538), (@PySem.Value.int 156 0), (@PySem.Value.int 2 0), (@PySem.Value.int 0 0), (@PySem.Value.int 0 0), (@PySem.Value.int 3 0), (@PySem.Value.ref 269), (@PySem.Value.bool @Bool.true), (@PySem.Value.int 181 0), (@PySem.Value.ref 270), @PySem.Value.none, (@PySem.Value.ref 271), (@PySem.Value.ref 272), (@PySem.Value.ref 273), (@PySem.Value.int 543 0), (@PySem.Value.int 156 0), (@PySem.Value.str ("/claim/cut.py" : PySem.Str) 544)]) #[]) :: Prod.mk (nat_lit 275) (@PySem.Obj.mk (@PySem.Value.type "function") (@Option.none @Nat) (@PySem.Data.func (PySem.W.fnOf "_law_with" "_law_with" (defArgs (topS 36)) (defBody (topS 36)) (defScope (topS 36)) .none @PySem.Value.none @PySem.Value.none (@PySem.Value.str ("law_tornsectors_k18_whole_plans_and_their_ba" : PySem.Str) 473) (@Option.none @Nat) (@PySem.Value.ref 274) @PySem.Value.none)) #[]) :: Prod.mk (nat_lit 281) (@PySem.Obj.mk (@PySem.Value.type "code") (@Option.none @Nat) (@PySem.Data.fields #[(@PySem.Value.str ("_law_told" : PySem.Str) 546), (@PySem.Value.str ("_law_told" : PySem.Str) 547), (@PySem.Value.str ("/claim/cut.py" : PySem.Str) 548), (@PySem.Value.int 164 0), (@PySem.Value.int 2 0), (@PySem.Value.int 0 0), (@PySem.Value.int 0 0), (@PySem.Value.int 3 0), (@PySem.Value.ref 276), (@PySem.Value.bool @Bool.true), (@PySem.Value.int 181 0), (@PySem.Value.ref 277), @PySem.Value.none, (@PySem.Value.ref 278), (@PySem.Value.ref 279), (@PySem.Value.ref 280), (@PySem.Value.int 552 0), (@PySem.Value.int 164 0), (@PySem.Value.str ("/claim/cut.py" : PySem.Str) 553)]) #[]) :: Prod.mk (nat_lit 282) (@PySem.Obj.mk (@PySem.Value.type "function") (@Option.none @Nat) (@PySem.Data.func (PySem.W.fnOf "_law_told" "_law_told" (defArgs (topS 37)) (defBody (topS 37)) (defScope (topS 37)) .none @PySem.Value.none @PySem.Value.none (@PySem.Value.str ("law_tornsectors_k18_whole_plans_and_their_ba" : PySem.Str) 473) (@Option.none @Nat) (@PySem.Value.ref 281) @PySem.Value.none)) #[]) :: Prod.mk (nat_lit 286) (@PySem.Obj.mk (@PySem.Value.type "code") (@Option.none @Nat) (@PySem.Data.fields #[(@PySem.Value.str ("_law_long_right" : PySem.Str) 555), (@PySem.Value.str ("_law_long_right" : PySem.Str) 556), (@PySem.Value.str ("/claim/cut.py" : PySem.Str) 557), (@PySem.Value.int 171 0), (@PySem.Value.int 1 0), (@PySem.Value.int 0 0), (@PySem.Value.int 0 0), (@PySem.Value.int 3 0), (@PySem.Value.ref 283), (@PySem.Value.bool @Bool.true), (@PySem.Value.int 181 0), (@PySem.Value.ref 284), @PySem.Value.none, @PySem.Value.none, @PySem.Value.none, (@PySem.Value.ref 285), (@PySem.Value.int 558 0), (@PySem.Value.int 171 0), (@PySem.Value.str ("/claim/cut.py" : PySem.Str) 559)]) #[]) :: Prod.mk (nat_lit 287) (@PySem.Obj.mk (@PySem.Value.type "function") (@Option.none @Nat) (@PySem.Data.func (PySem.W.fnOf "_law_long_right" "_law_long_right" (defArgs (topS 38)) (defBody (topS 38)) (defScope (topS 38)) .none @PySem.Value.none @PySem.Value.none (@PySem.Value.str ("law_tornsectors_k18_whole_plans_and_their_ba" : PySem.Str) 473) (@Option.none @Nat) (@PySem.Value.ref 286) @PySem.Value.none)) #[]) :: Prod.mk (nat_lit 291) (@PySem.Obj.mk (@PySem.Value.type "code") (@Option.none @Nat) (@PySem.Data.fields #[(@PySem.Value.str ("law" : PySem.Str) 561), (@PySem.Value.str ("law" : PySem.Str) 562), (@PySem.Value.str ("/claim/cut.py" : PySem.Str) 563), (@PySem.Value.int 181 0), (@PySem.Value.int 1 0), (@PySem.Value.int 0 0), (@PySem.Value.int 0 0), (@PySem.Value.int 3 0), (@PySem.Value.ref 288), (@PySem.Value.bool @Bool.true), (@PySem.Value.int 181 0), (@PySem.Value.ref 289), @PySem.Value.none, @PySem.Value.none, @PySem.Value.none, (@PySem.Value.ref 290), (@PySem.Value.int 564 0), (@PySem.Value.int 181 0), (@PySem.Value.str ("/claim/cut.py" : PySem.Str) 565)]) #[]) :: Prod.mk (nat_lit 292) (@PySem.Obj.mk (@PySem.Value.type "function") (@Option.none @Nat) (@PySem.Data.func (PySem.W.fnOf "law" "law" (defArgs (topS 39)) (defBody (topS 39)) (defScope (topS 39)) .none @PySem.Value.none @PySem.Value.none (@PySem.Value.str ("law_tornsectors_k18_whole_plans_and_their_ba" : PySem.Str) 473) (@Option.none @Nat) (@PySem.Value.ref 291) @PySem.Value.none)) #[]) :: []
noncomputable def asK : List Addr := [nat_lit 2, nat_lit 3, nat_lit 23, nat_lit 24, nat_lit 25, nat_lit 36, nat_lit 37, nat_lit 43, nat_lit 54, nat_lit 57, nat_lit 58, nat_lit 66, nat_lit 67, nat_lit 73, nat_lit 74, nat_lit 80, nat_lit 81, nat_lit 85, nat_lit 86, nat_lit 92, nat_lit 93, nat_lit 97, nat_lit 98, nat_lit 104, nat_lit 105, nat_lit 111, nat_lit 112, nat_lit 125, nat_lit 126, nat_lit 132, nat_lit 133, nat_lit 139, nat_lit 140, nat_lit 146, nat_lit 147, nat_lit 153, nat_lit 154, nat_lit 160, nat_lit 161, nat_lit 163, nat_lit 164, nat_lit 165, nat_lit 166, nat_lit 181, nat_lit 182, nat_lit 184, nat_lit 185, nat_lit 191, nat_lit 192, nat_lit 198, nat_lit 199, nat_lit 205, nat_lit 206, nat_lit 212, nat_lit 213, nat_lit 217, nat_lit 218, nat_lit 224, nat_lit 225, nat_lit 229, nat_lit 230, nat_lit 236, nat_lit 237, nat_lit 241, nat_lit 242, nat_lit 248, nat_lit 249, nat_lit 255, nat_lit 256, nat_lit 262, nat_lit 263, nat_lit 267, nat_lit 268, nat_lit 274, nat_lit 275, nat_lit 281, nat_lit 282, nat_lit 286, nat_lit 287, nat_lit 291, nat_lit 292]
theorem as_eq (P : Params) : asK = (Kh P).map (·.1) := by rfl
noncomputable abbrev R : PySem.W.OpenRow := PySem.W.OpenLaw.row PySem.Challenge.rw_tornsectors_k18_whole_plans_and_their_ba
noncomputable abbrev hk : PySem.W.Hook := PySem.W.kHook Kh asK as_eq
noncomputable def ob (s : PySem.W.SharedT) : List (Option Obj) := asK.map (HandSHeadRun.getT s)
theorem ob_eq (s : PySem.W.SharedT) : ob s = hk.obs s.abs := List.map_congr_left fun a _ => HandSHeadRun.getT_eq s a
theorem run (w : World) : HandSHeadRun.RunEq R (PySem.W.view R.prog [39]) hk ob 8000 names w := by
  intro os
  kernel_rfl
end SH
/-! HDict: dicts whose keys are None, or tuples, beside each other. -/
namespace HD
open PySem PySem.Spec PyProof.Rows L2
open Sem (wp)

/-- keys: None or an object that is known by what it holds; a key's value by its address (of None: any) -/
structure HK (prog : Program) (w : World) (K : Type) [DecidableEq K] where
  is : Heap → K → Addr → Prop
  val : K → Addr → Value
  hash : K → Int
  draws : K → Nat
  room : Around → Prop
  shape : ∀ (k : K) (a : Addr), val k a = .none ∨ val k a = .ref a
  inj : ∀ {h : Heap} {a b : Addr} {x y : K}, is h x a → is h y b → val x a = val y b → x = y
  keeps : ∀ {h h' : Heap} {k : K} {a : Addr} {d : Addr} {o : Obj} {es ep}, is h k a → h.get? d = some o → o.data = .dict es ep → Heap.SameBut d h h' → is h' k a
  pyHash : ∀ {A : Around} {E : Value → Shared → Prop} {s : Shared} {k : K} {a : Addr} {Q : Int → Shared → Prop}, room A → is s.heap k a → Q (hash k) { s with toks := s.toks + draws k } → wpAny (model prog w) A (PySem.pyHash (val k a)) Q E s
  eqBool : ∀ {A : Around} {E : Value → Shared → Prop} {s : Shared} {x y : K} {a b : Addr} {Q : Bool → Shared → Prop}, room A → is s.heap x a → is s.heap y b → Q (decide (x = y)) s → wpAny (model prog w) A (PySem.eqBool (val x a) (val y b)) Q E s
  quiet : ∀ {A : Around} {E : Value → Shared → Prop} {s : Shared} {k : K} {a : Addr} {Q : Bool → Shared → Prop}, is s.heap k a → Q true s → wpAny (model prog w) A (eqIsQuiet 8 (val k a)) Q E s
noncomputable abbrev Row (K : Type) := List (K × Addr × Value)
section
variable {prog : Program} {w : World} {K : Type} [DecidableEq K] (knd : HK prog w K)
noncomputable def entryOf (x : K × Addr × Value) : DictEntry := ⟨knd.hash x.1, knd.val x.1 x.2.1, x.2.2⟩
noncomputable def DictAt (h : Heap) (d : Addr) (xs : Row K) : Prop :=
  ∃ o es ep, h.get? d = some o ∧ o.ExactDict ∧ o.data = .dict es ep ∧ es.toList = xs.map (entryOf knd) ∧ (∀ x ∈ xs, knd.is h x.1 x.2.1) ∧ (xs.map (·.1)).Nodup
variable {knd}
theorem DictAt.typeIs {s : Shared} {d : Addr} {xs : Row K} (hm : DictAt knd s.heap d xs) : s.TypeIs (.ref d) "dict" :=
  let ⟨o, _, _, ho, hc, _⟩ := hm; ⟨o, ho, hc.1⟩
theorem DictAt.new (h : Heap) : DictAt knd (h.push { cls := .type "dict", data := .dict #[] }) h.objs.size [] :=
  ⟨_, #[], 0, Heap.get?_push_size _ rfl, ⟨rfl, rfl, rfl⟩, rfl, rfl, fun _ hx => by simp at hx, List.nodup_nil⟩
variable {A : Around} {E : Value → Shared → Prop} {s : Shared}
end
end HD

namespace HD
open PySem PySem.Spec PyProof.Rows L2
section
variable {prog : Program} {w : World} {K : Type} [DecidableEq K] {knd : HK prog w K} {A : Around} {E : Value → Shared → Prop} {s : Shared}
end
/-! ### None and tuples of ints -/
noncomputable def heldVal (k : Option (List Int)) (a : Addr) : Value := match k with
  | none => .none
  | some _ => .ref a
end HD
/-! HHeld: dicts of None and tuples of ints, in the hand layer's words. -/
namespace HD
open PySem PySem.Spec PyProof.Rows L2

noncomputable abbrev Hk := Option (List Int)
noncomputable def hashOf : Hk → Int
  | none => reduceHash 0xFCA86420
  | some ks => reduceHash (Builtin.Tuple.tupleHashOf (ks.map hashInt))
noncomputable def ent (x : Hk × Addr × Value) : DictEntry := ⟨hashOf x.1, heldVal x.1 x.2.1, x.2.2⟩
/-- the dict at d, without its keys' objects -/
structure HldRaw (d : Addr) (rows : Row Hk) (h : Heap) : Prop where
  no : (d == sysModules) = false
  len : rows.length ≤ sizeLine
  nd : (rows.map (·.1)).Nodup
  ob : ∃ o es ep, h.get? d = some o ∧ o.ExactDict ∧ o.data = .dict es ep ∧ es.toList = rows.map ent
noncomputable def hld (d : Addr) (rows : Row Hk) : HO := .ext (HldRaw d rows)
/-- the keys' tuples are there -/
noncomputable def KeysIn (K : PySem.W.Frag) (H : Hp) (rows : Row Hk) : Prop := ∀ x ∈ rows, ∀ ks, x.1 = some ks → SqT K H x.2.1 (ks.map V.int)
section
variable {X : Cx} {pins : List (Addr × Obj)} {σ : L2.St} {H : Hp} {s : Shared} {d : Addr} {rows : Row Hk}
end
section
variable {X : Cx} {kx vx : Expr} {pos : Pos} {tk tv : TE}
end
end HD
/-! set(xs) of a list of ints, told so that sorted() of it can be told (SetR): the kit tells it of a tuple. -/
namespace HSetL
open PySem PySem.Spec PyProof.Rows L2

section
variable {P : Program} {w : World} {A : Around} {E : Value → Shared → Prop} {s : Shared}
end
end HSetL
/-! AB: an abstract machine over data, and how the hand layer's judgements follow it. -/
namespace AB
open PySem PySem.Spec PyProof.Rows L2

inductive D where
  | non | bl (b : Bool) | int (i : Int) | str (x : Str) | tup (ds : List D) | lst (ds : List D) | rol (ds : List D) | loc (n : Nat) | con (a : Addr)
inductive AO where
  | lst (ds : List D)
  | ins (C : Str) (fs : List (Str × D))
  | dct (kvs : List (L2.Key × D))
  /-- a dict while a loop walks it -/
  | lck (kvs : List (L2.Key × D))
  /-- a dict whose keys are None and tuples of ints: its keys -/
  | hld (ks : List HD.Hk)
noncomputable abbrev AH := List AO
noncomputable abbrev Env := List (Option D)

/-- what stands for ever (S), what must stay as it is now (F), where the machine's objects lie (mu), how many they are (N) -/
structure Wd where
  S : Hp
  F : Hp
  mu : Nat → Addr
  N : Nat
  LK : Hp

mutual
inductive RepV (K : PySem.W.Frag) (G : Hp) (mu : Nat → Addr) (N : Nat) : V → D → Prop
  | non : RepV K G mu N .non .non
  | bl (b : Bool) : RepV K G mu N (.bl b) (.bl b)
  | int (i : Int) : RepV K G mu N (.int i) (.int i)
  | str (x : Str) : RepV K G mu N (.str x) (.str x)
  | tup {a : Addr} {xs : List V} {ds : List D} : SqT K G a xs → RepAll K G mu N xs ds → RepV K G mu N (.ref a) (.tup ds)
  | lst {a : Addr} {xs : List V} {ds : List D} : Rd G a (.lst xs) → RepAll K G mu N xs ds → RepV K G mu N (.ref a) (.lst ds)
  | rol {a : Addr} {xs : List V} {ds : List D} : SqL K G a xs → RepAll K G mu N xs ds → RepV K G mu N (.ref a) (.rol ds)
  | loc {n : Nat} : n < N → RepV K G mu N (.ref (mu n)) (.loc n)
  | con {a : Addr} : RepV K G mu N (.ref a) (.con a)
inductive RepAll (K : PySem.W.Frag) (G : Hp) (mu : Nat → Addr) (N : Nat) : List V → List D → Prop
  | nil : RepAll K G mu N [] []
  | cons {v : V} {vs : List V} {d : D} {ds : List D} : RepV K G mu N v d → RepAll K G mu N vs ds → RepAll K G mu N (v :: vs) (d :: ds)
end

section
variable {K : PySem.W.Frag} {G G' H H' : Hp} {mu mu' : Nat → Addr} {N N' : Nat}
noncomputable def Ext (H H' : Hp) : Prop := ∀ a o, H a = some o → H' a = some o
theorem Ext.refl (H : Hp) : Ext H H := fun _ _ h => h
theorem Ext.trans {H H1 H2 : Hp} (a : Ext H H1) (b : Ext H1 H2) : Ext H H2 := fun x o h => b x o (a x o h)
theorem Ext.new {H : Hp} {p : Addr} {o : HO} (h : H p = none) : Ext H (upd H p o) := fun a u e => by
  rw [upd_ne (ne_of_none e h)]
  exact e
theorem Ext.rd {a : Addr} {u : HO} (e : Ext H H') (h : Rd H a u) : Rd H' a u := by
  rcases h with h | ⟨o, h⟩
  · exact .inl (e a _ h)
  · exact .inr ⟨o, e a _ h⟩
theorem Ext.l {a : Addr} {xs : List V} (e : Ext H H') (h : SqL K H a xs) : SqL K H' a xs := by
  rcases h with h | h
  · exact .inl (e.rd h)
  · exact .inr h
theorem Ext.t {a : Addr} {xs : List V} (e : Ext H H') (h : SqT K H a xs) : SqT K H' a xs := by
  rcases h with h | h
  · exact .inl (e.rd h)
  · exact .inr h
theorem Ext.free {p : Addr} (e : Ext H H') (h : H' p = none) : H p = none := by
  cases h1 : H p with
  | none => rfl
  | some o =>
    rw [e p o h1] at h
    cases h

mutual
theorem RepV.mono (e : Ext G G') (hN : N ≤ N') (hm : ∀ n, n < N → mu' n = mu n) : ∀ (d : D) (v : V), RepV K G mu N v d → RepV K G' mu' N' v d
  | .non, _, h => by cases h; exact .non
  | .bl _, _, h => by cases h; exact .bl _
  | .int _, _, h => by cases h; exact .int _
  | .str _, _, h => by cases h; exact .str _
  | .tup ds, _, h => by
    cases h with
    | tup a b => exact .tup (e.t a) (RepAll.mono e hN hm ds _ b)
  | .lst ds, _, h => by
    cases h with
    | lst a b => exact .lst (e.rd a) (RepAll.mono e hN hm ds _ b)
  | .rol ds, _, h => by
    cases h with
    | rol a b => exact .rol (e.l a) (RepAll.mono e hN hm ds _ b)
  | .loc n, _, h => by
    cases h with
    | loc a =>
      rw [← hm n a]
      exact .loc (Nat.lt_of_lt_of_le a hN)
  | .con _, _, h => by cases h; exact .con
theorem RepAll.mono (e : Ext G G') (hN : N ≤ N') (hm : ∀ n, n < N → mu' n = mu n) : ∀ (ds : List D) (vs : List V), RepAll K G mu N vs ds → RepAll K G' mu' N' vs ds
  | [], _, h => by cases h; exact .nil
  | d :: ds, _, h => by
    cases h with
    | cons a b => exact .cons (RepV.mono e hN hm d _ a) (RepAll.mono e hN hm ds _ b)
end
theorem RepAll.length : ∀ {vs : List V} {ds : List D}, RepAll K G mu N vs ds → vs.length = ds.length
  | _, _, .nil => rfl
  | _, _, .cons _ b => by rw [List.length_cons, List.length_cons, RepAll.length b]
theorem RepAll.append : ∀ {vs ws : List V} {ds es : List D}, RepAll K G mu N vs ds → RepAll K G mu N ws es → RepAll K G mu N (vs ++ ws) (ds ++ es)
  | _, _, _, _, .nil, h => h
  | _, _, _, _, .cons a b, h => .cons a (RepAll.append b h)
theorem RepAll.get : ∀ {vs : List V} {ds : List D} {i : Nat} {d : D}, RepAll K G mu N vs ds → ds[i]? = some d → ∃ v, vs[i]? = some v ∧ RepV K G mu N v d
  | _, _, _, _, .nil, e => by simp at e
  | _, _, 0, _, .cons a _, e => by
    simp at e
    subst e
    exact ⟨_, rfl, a⟩
  | _, _, i + 1, d, .cons _ b, e => by
    obtain ⟨v, h1, h2⟩ := RepAll.get (i := i) (d := d) b (by simpa using e)
    exact ⟨v, by simpa using h1, h2⟩
theorem RepAll.drop : ∀ {vs : List V} {ds : List D} (n : Nat), RepAll K G mu N vs ds → RepAll K G mu N (vs.drop n) (ds.drop n)
  | _, _, 0, h => h
  | _, _, _ + 1, .nil => .nil
  | _, _, n + 1, .cons _ b => RepAll.drop n b
theorem RepAll.take : ∀ {vs : List V} {ds : List D} (n : Nat), RepAll K G mu N vs ds → RepAll K G mu N (vs.take n) (ds.take n)
  | _, _, 0, _ => .nil
  | _, _, _ + 1, .nil => .nil
  | _, _, n + 1, .cons a b => .cons a (RepAll.take n b)
theorem RepAll.set {v : V} {d : D} (r : RepV K G mu N v d) : ∀ {vs : List V} {ds : List D} (n : Nat), RepAll K G mu N vs ds → RepAll K G mu N (vs.set n v) (ds.set n d)
  | _, _, _, .nil => .nil
  | _, _, 0, .cons _ b => .cons r b
  | _, _, n + 1, .cons a b => .cons a (RepAll.set r n b)
theorem RepAll.reverse : ∀ {vs : List V} {ds : List D}, RepAll K G mu N vs ds → RepAll K G mu N vs.reverse ds.reverse
  | _, _, .nil => .nil
  | _, _, .cons a b => by
    rw [List.reverse_cons, List.reverse_cons]
    exact (RepAll.reverse b).append (.cons a .nil)
end

/-- what stands at a machine's object -/
noncomputable def RepO (K : PySem.W.Frag) (w : Wd) (H : Hp) (a : Addr) : AO → Prop
  | .lst ds => ∃ xs, H a = some (.lst xs) ∧ RepAll K w.S w.mu w.N xs ds
  | .ins C fs => ∃ Ca dx fv, PySem.W.nsIn K mainGlobals C = some (some (.ref Ca)) ∧ H a = some (.ins Ca dx fv) ∧ fv.map (·.1) = fs.map (·.1) ∧ RepAll K w.S w.mu w.N (fv.map (·.2)) (fs.map (·.2)) ∧ w.S dx = some (.own a)
  | .dct kvs => ∃ kv, H a = some (.dK kv) ∧ kv.map (·.1) = kvs.map (·.1) ∧ RepAll K w.S w.mu w.N (kv.map (·.2)) (kvs.map (·.2))
  | .lck kvs => ∃ o kv, H a = some (.frz o (.dK kv)) ∧ w.LK a = some (.frz o (.dK kv)) ∧ kv.map (·.1) = kvs.map (·.1) ∧ RepAll K w.S w.mu w.N (kv.map (·.2)) (kvs.map (·.2))
  | .hld ks => ∃ rows, H a = some (HD.hld a rows) ∧ rows.map (·.1) = ks ∧ HD.KeysIn K w.S rows
structure RepH (K : PySem.W.Frag) (w : Wd) (H : Hp) (h : AH) : Prop where
  ex : Ext w.S H
  len : w.N = h.length
  inj : ∀ m n, m < w.N → n < w.N → w.mu m = w.mu n → m = n
  cell : ∀ n o, h[n]? = some o → w.S (w.mu n) = none ∧ RepO K w H (w.mu n) o
  exF : Ext w.F H
  dis : ∀ a u, w.F a = some u → w.S a = none ∧ ∀ n, n < w.N → w.mu n ≠ a
structure Le (w w' : Wd) : Prop where
  ex : Ext w.S w'.S
  n : w.N ≤ w'.N
  mu : ∀ n, n < w.N → w'.mu n = w.mu n
  f : w'.F = w.F
  lk : w'.LK = w.LK
/-- .. whatever must stay -/
structure LeX (w w' : Wd) : Prop where
  ex : Ext w.S w'.S
  n : w.N ≤ w'.N
  mu : ∀ n, n < w.N → w'.mu n = w.mu n
  lk : w'.LK = w.LK
theorem Le.x {w w' : Wd} (l : Le w w') : LeX w w' := ⟨l.ex, l.n, l.mu, l.lk⟩
theorem LeX.trans {a b c : Wd} (x : LeX a b) (y : LeX b c) : LeX a c :=
  ⟨x.ex.trans y.ex, Nat.le_trans x.n y.n, fun n hn => (y.mu n (Nat.lt_of_lt_of_le hn x.n)).trans (x.mu n hn), y.lk.trans x.lk⟩
theorem Le.refl (w : Wd) : Le w w := ⟨Ext.refl _, Nat.le_refl _, fun _ _ => rfl, rfl, rfl⟩
theorem Le.trans {a b c : Wd} (x : Le a b) (y : Le b c) : Le a c :=
  ⟨x.ex.trans y.ex, Nat.le_trans x.n y.n, fun n hn => (y.mu n (Nat.lt_of_lt_of_le hn x.n)).trans (x.mu n hn), y.f.trans x.f, y.lk.trans x.lk⟩
noncomputable abbrev Rv (K : PySem.W.Frag) (w : Wd) : V → D → Prop := RepV K w.S w.mu w.N
noncomputable abbrev Ra (K : PySem.W.Frag) (w : Wd) : List V → List D → Prop := RepAll K w.S w.mu w.N
theorem Rv_monoX {K : PySem.W.Frag} {w w' : Wd} {v : V} {d : D} (l : LeX w w') (h : Rv K w v d) : Rv K w' v d := RepV.mono l.ex l.n l.mu d v h
theorem Rv_mono {K : PySem.W.Frag} {w w' : Wd} {v : V} {d : D} (l : Le w w') (h : Rv K w v d) : Rv K w' v d := RepV.mono l.ex l.n l.mu d v h
theorem Ra_mono {K : PySem.W.Frag} {w w' : Wd} {v : List V} {d : List D} (l : Le w w') (h : Ra K w v d) : Ra K w' v d := RepAll.mono l.ex l.n l.mu d v h

section
variable {K : PySem.W.Frag} {w : Wd} {H : Hp} {h : AH}
theorem RepO.some {a : Addr} {o : AO} (r : RepO K w H a o) : ∃ u, H a = some u := by
  cases o with
  | lst ds => obtain ⟨xs, e, _⟩ := r; exact ⟨_, e⟩
  | ins C fs => obtain ⟨Ca, dx, fv, _, e, _⟩ := r; exact ⟨_, e⟩
  | dct kvs => obtain ⟨kv, e, _⟩ := r; exact ⟨_, e⟩
  | lck kvs => obtain ⟨o, kv, e, _⟩ := r; exact ⟨_, e⟩
  | hld ks => obtain ⟨rows, e, _⟩ := r; exact ⟨_, e⟩
theorem RepH.taken (r : RepH K w H h) {n : Nat} (hn : n < w.N) : ∃ u, H (w.mu n) = some u := by
  have hl : n < h.length := by rw [← r.len]; exact hn
  obtain ⟨_, c⟩ := r.cell n h[n] (List.getElem?_eq_getElem hl)
  exact c.some
theorem RepH.ne (r : RepH K w H h) {n : Nat} {p : Addr} (hn : n < w.N) (hp : H p = none) : w.mu n ≠ p := by
  obtain ⟨u, e⟩ := r.taken hn
  intro z
  rw [z, hp] at e
  cases e
theorem RepO.mono {w' : Wd} {H' : Hp} {a : Addr} {o : AO} (l : Le w w') (e : H' a = H a) (r : RepO K w H a o) : RepO K w' H' a o := by
  cases o with
  | lst ds =>
    obtain ⟨xs, e1, r⟩ := r
    exact ⟨xs, e.trans e1, Ra_mono l r⟩
  | ins C fs =>
    obtain ⟨Ca, dx, fv, ec, e1, e2, r, e3⟩ := r
    exact ⟨Ca, dx, fv, ec, e.trans e1, e2, Ra_mono l r, l.ex _ _ e3⟩
  | dct kvs =>
    obtain ⟨kv, e1, e2, r⟩ := r
    exact ⟨kv, e.trans e1, e2, Ra_mono l r⟩
  | lck kvs =>
    obtain ⟨o, kv, e1, e0, e2, r⟩ := r
    exact ⟨o, kv, e.trans e1, by rw [l.lk]; exact e0, e2, Ra_mono l r⟩
  | hld ks =>
    obtain ⟨rows, e1, e2, k⟩ := r
    exact ⟨rows, e.trans e1, e2, fun x hx ks ek => l.ex.t (k x hx ks ek)⟩
/-- a new thing that never changes -/
noncomputable def Wd.add (w : Wd) (p : Addr) (o : HO) : Wd := ⟨upd w.S p o, w.F, w.mu, w.N, w.LK⟩
theorem RepH.le_add (r : RepH K w H h) {p : Addr} {o : HO} (hp : H p = none) : Le w (w.add p o) :=
  ⟨Ext.new (r.ex.free hp), Nat.le_refl _, fun _ _ => rfl, rfl, rfl⟩
theorem RepH.add (r : RepH K w H h) {p : Addr} {o : HO} (hp : H p = none) : RepH K (w.add p o) (upd H p o) h := by
  have hF : ∀ a u, w.F a = some u → a ≠ p := fun a u e => ne_of_none (r.exF _ _ e) hp
  refine ⟨fun a u e => ?_, r.len, r.inj, fun n o' e => ?_, fun a u e => by rw [upd_ne (hF a u e)]; exact r.exF _ _ e, fun a u e => ⟨by
    show upd w.S p o a = none
    rw [upd_ne (hF a u e)]
    exact (r.dis a u e).1, (r.dis a u e).2⟩⟩
  · have e : upd w.S p o a = some u := e
    by_cases ha : a = p
    · subst ha
      rw [upd_same] at e ⊢
      exact e
    · rw [upd_ne ha] at e ⊢
      exact r.ex _ _ e
  · obtain ⟨a, b⟩ := r.cell n o' e
    have hn : n < w.N := by
      rw [r.len]
      exact (List.getElem?_eq_some_iff.mp e).1
    have q := r.ne hn hp
    refine ⟨?_, b.mono (r.le_add hp) (upd_ne q)⟩
    show upd w.S p o (w.mu n) = none
    rw [upd_ne q]
    exact a
/-- a new object of the machine's -/
noncomputable def Wd.push (w : Wd) (p : Addr) : Wd := ⟨w.S, w.F, fun n => if n = w.N then p else w.mu n, w.N + 1, w.LK⟩
theorem Wd.le_push (w : Wd) (p : Addr) : Le w (w.push p) :=
  ⟨Ext.refl _, Nat.le_succ _, fun n hn => if_neg (Nat.ne_of_lt hn), rfl, rfl⟩
theorem Wd.push_mu (w : Wd) (p : Addr) : (w.push p).mu w.N = p := if_pos rfl
/-- p stands in H, is none of the known ones -/
structure Apart (w : Wd) (p : Addr) : Prop where
  s : w.S p = none
  m : ∀ n, n < w.N → w.mu n ≠ p
  f : w.F p = none
theorem RepH.push (r : RepH K w H h) {p : Addr} {o : AO} (ap : Apart w p) (ro : RepO K (w.push p) H p o) : RepH K (w.push p) H (h ++ [o]) := by
  refine ⟨r.ex, ?_, fun m n hm hn e => ?_, fun n o' e => ?_, r.exF, fun a u e => ⟨(r.dis a u e).1, fun n hn z => ?_⟩⟩
  rotate_left 3
  · have hn : n < w.N + 1 := hn
    have z : (if n = w.N then p else w.mu n) = a := z
    have e : w.F a = some u := e
    by_cases q : n = w.N
    · rw [if_pos q] at z
      rw [← z, ap.f] at e
      cases e
    · rw [if_neg q] at z
      exact (r.dis a u e).2 n (by omega) z
  · show w.N + 1 = _
    rw [r.len, List.length_append]
    rfl
  · have hm : m < w.N + 1 := hm
    have hn : n < w.N + 1 := hn
    have e : (if m = w.N then p else w.mu m) = (if n = w.N then p else w.mu n) := e
    by_cases m1 : m = w.N
    · by_cases n1 : n = w.N
      · rw [m1, n1]
      · rw [if_pos m1, if_neg n1] at e
        exact absurd e.symm (ap.m n (by omega))
    · by_cases n1 : n = w.N
      · rw [if_neg m1, if_pos n1] at e
        exact absurd e (ap.m m (by omega))
      · rw [if_neg m1, if_neg n1] at e
        exact r.inj m n (by omega) (by omega) e
  · by_cases hn : n < h.length
    · rw [List.getElem?_append_left hn] at e
      obtain ⟨a, b⟩ := r.cell n o' e
      have q : (w.push p).mu n = w.mu n := (w.le_push p).mu n (by rw [r.len]; exact hn)
      rw [q]
      exact ⟨a, b.mono (w.le_push p) rfl⟩
    · have hl := (List.getElem?_eq_some_iff.mp e).1
      rw [List.length_append] at hl
      have en : n = h.length := by
        simp at hl
        omega
      subst en
      rw [List.getElem?_append_right (Nat.le_refl _)] at e
      simp at e
      subst e
      rw [← r.len, w.push_mu]
      exact ⟨ap.s, ro⟩
theorem RepH.set (r : RepH K w H h) {n : Nat} {u : HO} {o : AO} (hn : n < w.N) (ro : RepO K w (upd H (w.mu n) u) (w.mu n) o) : RepH K w (upd H (w.mu n) u) (h.set n o) := by
  refine ⟨fun a x e => ?_, by rw [r.len, List.length_set], r.inj, fun m o' e => ?_, fun a x e => by rw [upd_ne (fun z => (r.dis a x e).2 n hn z.symm)]; exact r.exF _ _ e, r.dis⟩
  · have hl : n < h.length := by rw [← r.len]; exact hn
    obtain ⟨z, _⟩ := r.cell n h[n] (List.getElem?_eq_getElem hl)
    have q : a ≠ w.mu n := by
      intro y
      rw [y, z] at e
      cases e
    rw [upd_ne q]
    exact r.ex _ _ e
  · by_cases hm : m = n
    · subst hm
      have hl : m < h.length := by rw [← r.len]; exact hn
      obtain ⟨z, _⟩ := r.cell m h[m] (List.getElem?_eq_getElem hl)
      rw [List.getElem?_set_self hl] at e
      cases e
      exact ⟨z, ro⟩
    · rw [List.getElem?_set_ne (Ne.symm hm)] at e
      obtain ⟨a, b⟩ := r.cell m o' e
      have hl : m < w.N := by rw [r.len]; exact (List.getElem?_eq_some_iff.mp e).1
      refine ⟨a, b.mono (Le.refl w) (upd_ne fun z => hm (r.inj m n hl hn z))⟩
end

/-! ### results -/
inductive Res (α : Type) where
  | ok (a : α) (h : AH)
  | exc (c : Str) (fs : List (Str × D)) (h : AH)
  | stuck
noncomputable def Res.bind {α β : Type} (r : Res α) (k : α → AH → Res β) : Res β :=
  match r with
  | .ok a h => k a h
  | .exc c fs h => .exc c fs h
  | .stuck => .stuck
@[simp] theorem Res.bind_ok {α β : Type} (a : α) (h : AH) (k : α → AH → Res β) : (Res.ok a h).bind k = k a h := rfl
@[simp] theorem Res.bind_stuck {α β : Type} (k : α → AH → Res β) : (Res.stuck : Res α).bind k = .stuck := rfl
@[simp] theorem Res.bind_exc {α β : Type} (c : Str) (fs : List (Str × D)) (h : AH) (k : α → AH → Res β) : (Res.exc c fs h : Res α).bind k = .exc c fs h := rfl
noncomputable abbrev Me := Env → AH → Res D
noncomputable abbrev MeL := Env → AH → Res (List D)
noncomputable abbrev MeT := Env → AH → Res Bool

/-- the slots -/
noncomputable def RepG (K : PySem.W.Frag) (w : Wd) (σ : L2.St) (G : Env) : Prop := σ.length = G.length ∧ ∀ (i : Nat) (d : D), G[i]? = some (some d) → ∃ v, σ[i]? = some (some v) ∧ Rv K w v d
theorem RepG.mono {K : PySem.W.Frag} {w w' : Wd} {σ : L2.St} {G : Env} (l : Le w w') (r : RepG K w σ G) : RepG K w' σ G :=
  ⟨r.1, fun i d e => by
    obtain ⟨v, h1, h2⟩ := r.2 i d e
    exact ⟨v, h1, Rv_mono l h2⟩⟩
theorem RepG.monoX {K : PySem.W.Frag} {w w' : Wd} {σ : L2.St} {G : Env} (l : LeX w w') (r : RepG K w σ G) : RepG K w' σ G :=
  ⟨r.1, fun i d e => by
    obtain ⟨v, h1, h2⟩ := r.2 i d e
    exact ⟨v, h1, Rv_monoX l h2⟩⟩
theorem RepG.set {K : PySem.W.Frag} {w : Wd} {σ : L2.St} {G : Env} {v : V} {d : D} (r : RepG K w σ G) (i : Nat) (rv : Rv K w v d) : RepG K w (σ.set i (some v)) (G.set i (some d)) := by
  refine ⟨by rw [List.length_set, List.length_set, r.1], fun j e h => ?_⟩
  by_cases hj : j = i
  · subst hj
    have hl : j < G.length := by
      have := (List.getElem?_eq_some_iff.mp h).1
      rwa [List.length_set] at this
    rw [List.getElem?_set_self hl] at h
    cases h
    exact ⟨v, List.getElem?_set_self (by rw [r.1]; exact hl), rv⟩
  · rw [List.getElem?_set_ne (Ne.symm hj)] at h
    obtain ⟨x, h1, h2⟩ := r.2 j e h
    exact ⟨x, by rw [List.getElem?_set_ne (Ne.symm hj)]; exact h1, h2⟩

/-- the wish of what is raised: its class and own dict, the slots, the heap -/
noncomputable abbrev WX := Value → Option Addr → L2.St → Hp → Prop
/-- what an error carries -/
noncomputable def RepX (K : PySem.W.Frag) (w : Wd) (H : Hp) (dd : Option Addr) : List (Str × D) → Prop
  | [] => dd = none
  | fs => ∃ p fv, dd = some p ∧ H p = some (.xd fv) ∧ fv.map (·.1) = fs.map (·.1) ∧ RepAll K w.S w.mu w.N (fv.map (·.2)) (fs.map (·.2))

section
variable (K : PySem.W.Frag) (mg : Str → Option Value) (W : WX)
noncomputable def OutX (w : Wd) (σ : L2.St) (c : Str) (fs : List (Str × D)) (h : AH) : Prop :=
  ∀ cls dd w' H', mg c = some cls → Le w w' → RepH K w' H' h → RepX K w' H' dd fs → W cls dd σ H'
noncomputable def OutE (w : Wd) (σ : L2.St) (Q : VK) : Res D → Prop
  | .ok d h => ∀ v w' H', Le w w' → RepH K w' H' h → Rv K w' v d → Q v H'
  | .exc c fs h => OutX K mg W w σ c fs h
  | .stuck => False
/-- a new list, known to nobody -/
noncomputable def OutF (w : Wd) (σ : L2.St) (Q : VK) : Res (List D) → Prop
  | .ok ds h => ∀ p xs w' H', Le w w' → RepH K w' H' h → Apart w' p → H' p = some (.lst xs) → Ra K w' xs ds → Q (.ref p) H'
  | .exc c fs h => OutX K mg W w σ c fs h
  | .stuck => False
noncomputable def OutA (w : Wd) (σ : L2.St) (Q : List V → Hp → Prop) : Res (List D) → Prop
  | .ok ds h => ∀ vs w' H', Le w w' → RepH K w' H' h → Ra K w' vs ds → Q vs H'
  | .exc c fs h => OutX K mg W w σ c fs h
  | .stuck => False
noncomputable def OutT (w : Wd) (σ : L2.St) (Q : Bool → Hp → Prop) : Res Bool → Prop
  | .ok b h => ∀ w' H', Le w w' → RepH K w' H' h → Q b H'
  | .exc c fs h => OutX K mg W w σ c fs h
  | .stuck => False
noncomputable def tM (m : Me) : TE := fun σ H Q => ∃ w G h, RepG K w σ G ∧ RepH K w H h ∧ OutE K mg W w σ Q (m G h)
noncomputable def tF (m : MeL) : TE := fun σ H Q => ∃ w G h, RepG K w σ G ∧ RepH K w H h ∧ OutF K mg W w σ Q (m G h)
noncomputable def tAr (m : MeL) : TA := fun σ H Q => ∃ w G h, RepG K w σ G ∧ RepH K w H h ∧ OutA K mg W w σ Q (m G h)
noncomputable def tT (m : MeT) : TT := fun σ H Q => ∃ w G h, RepG K w σ G ∧ RepH K w H h ∧ OutT K mg W w σ Q (m G h)
end

section
variable {K : PySem.W.Frag} {mg : Str → Option Value} {W : WX} {w w' : Wd} {σ : L2.St} {H : Hp} {G : Env} {h : AH}
theorem OutX.mono {c : Str} {fs : List (Str × D)} (l : Le w w') (o : OutX K mg W w σ c fs h) : OutX K mg W w' σ c fs h :=
  fun cls dd w2 H' e l2 r x => o cls dd w2 H' e (l.trans l2) r x
theorem OutE.mono {Q : VK} {r : Res D} (l : Le w w') (o : OutE K mg W w σ Q r) : OutE K mg W w' σ Q r := by
  cases r with
  | ok d h => exact fun v w2 H' l2 r x => o v w2 H' (l.trans l2) r x
  | exc c fs h => exact OutX.mono l o
  | stuck => exact o
theorem OutF.mono {Q : VK} {r : Res (List D)} (l : Le w w') (o : OutF K mg W w σ Q r) : OutF K mg W w' σ Q r := by
  cases r with
  | ok d h => exact fun p xs w2 H' l2 r x => o p xs w2 H' (l.trans l2) r x
  | exc c fs h => exact OutX.mono l o
  | stuck => exact o
theorem OutA.mono {Q : List V → Hp → Prop} {r : Res (List D)} (l : Le w w') (o : OutA K mg W w σ Q r) : OutA K mg W w' σ Q r := by
  cases r with
  | ok d h => exact fun v w2 H' l2 r x => o v w2 H' (l.trans l2) r x
  | exc c fs h => exact OutX.mono l o
  | stuck => exact o
theorem OutT.mono {Q : Bool → Hp → Prop} {r : Res Bool} (l : Le w w') (o : OutT K mg W w σ Q r) : OutT K mg W w' σ Q r := by
  cases r with
  | ok d h => exact fun w2 H' l2 r => o w2 H' (l.trans l2) r
  | exc c fs h => exact OutX.mono l o
  | stuck => exact o
theorem OutE.bindE {m : Me} {R : VK} {Q : VK} {k : D → AH → Res D} (o : OutE K mg W w σ Q ((m G h).bind k))
    (hq : ∀ d h1 v w1 H1, Le w w1 → RepH K w1 H1 h1 → Rv K w1 v d → OutE K mg W w1 σ Q (k d h1) → R v H1) : OutE K mg W w σ R (m G h) := by
  cases e : m G h with
  | ok d h1 =>
    rw [e] at o
    exact fun v w1 H1 l r x => hq d h1 v w1 H1 l r x (OutE.mono l o)
  | exc c fs h1 =>
    rw [e] at o
    exact o
  | stuck =>
    rw [e] at o
    exact o
theorem OutF.bindE {m : Me} {R : VK} {Q : VK} {k : D → AH → Res (List D)} (o : OutF K mg W w σ Q ((m G h).bind k))
    (hq : ∀ d h1 v w1 H1, Le w w1 → RepH K w1 H1 h1 → Rv K w1 v d → OutF K mg W w1 σ Q (k d h1) → R v H1) : OutE K mg W w σ R (m G h) := by
  cases e : m G h with
  | ok d h1 =>
    rw [e] at o
    exact fun v w1 H1 l r x => hq d h1 v w1 H1 l r x (OutF.mono l o)
  | exc c fs h1 =>
    rw [e] at o
    exact o
  | stuck =>
    rw [e] at o
    exact o
theorem OutA.bindE {m : Me} {R : VK} {Q : List V → Hp → Prop} {k : D → AH → Res (List D)} (o : OutA K mg W w σ Q ((m G h).bind k))
    (hq : ∀ d h1 v w1 H1, Le w w1 → RepH K w1 H1 h1 → Rv K w1 v d → OutA K mg W w1 σ Q (k d h1) → R v H1) : OutE K mg W w σ R (m G h) := by
  cases e : m G h with
  | ok d h1 =>
    rw [e] at o
    exact fun v w1 H1 l r x => hq d h1 v w1 H1 l r x (OutA.mono l o)
  | exc c fs h1 =>
    rw [e] at o
    exact o
  | stuck =>
    rw [e] at o
    exact o
theorem OutT.bindE {m : Me} {R : VK} {Q : Bool → Hp → Prop} {k : D → AH → Res Bool} (o : OutT K mg W w σ Q ((m G h).bind k))
    (hq : ∀ d h1 v w1 H1, Le w w1 → RepH K w1 H1 h1 → Rv K w1 v d → OutT K mg W w1 σ Q (k d h1) → R v H1) : OutE K mg W w σ R (m G h) := by
  cases e : m G h with
  | ok d h1 =>
    rw [e] at o
    exact fun v w1 H1 l r x => hq d h1 v w1 H1 l r x (OutT.mono l o)
  | exc c fs h1 =>
    rw [e] at o
    exact o
  | stuck =>
    rw [e] at o
    exact o
theorem OutE.bindA {m : MeL} {R : List V → Hp → Prop} {Q : VK} {k : List D → AH → Res D} (o : OutE K mg W w σ Q ((m G h).bind k))
    (hq : ∀ ds h1 vs w1 H1, Le w w1 → RepH K w1 H1 h1 → Ra K w1 vs ds → OutE K mg W w1 σ Q (k ds h1) → R vs H1) : OutA K mg W w σ R (m G h) := by
  cases e : m G h with
  | ok d h1 =>
    rw [e] at o
    exact fun v w1 H1 l r x => hq d h1 v w1 H1 l r x (OutE.mono l o)
  | exc c fs h1 =>
    rw [e] at o
    exact o
  | stuck =>
    rw [e] at o
    exact o
theorem OutF.bindA {m : MeL} {R : List V → Hp → Prop} {Q : VK} {k : List D → AH → Res (List D)} (o : OutF K mg W w σ Q ((m G h).bind k))
    (hq : ∀ ds h1 vs w1 H1, Le w w1 → RepH K w1 H1 h1 → Ra K w1 vs ds → OutF K mg W w1 σ Q (k ds h1) → R vs H1) : OutA K mg W w σ R (m G h) := by
  cases e : m G h with
  | ok d h1 =>
    rw [e] at o
    exact fun v w1 H1 l r x => hq d h1 v w1 H1 l r x (OutF.mono l o)
  | exc c fs h1 =>
    rw [e] at o
    exact o
  | stuck =>
    rw [e] at o
    exact o
theorem OutA.bindA {m : MeL} {R : List V → Hp → Prop} {Q : List V → Hp → Prop} {k : List D → AH → Res (List D)} (o : OutA K mg W w σ Q ((m G h).bind k))
    (hq : ∀ ds h1 vs w1 H1, Le w w1 → RepH K w1 H1 h1 → Ra K w1 vs ds → OutA K mg W w1 σ Q (k ds h1) → R vs H1) : OutA K mg W w σ R (m G h) := by
  cases e : m G h with
  | ok d h1 =>
    rw [e] at o
    exact fun v w1 H1 l r x => hq d h1 v w1 H1 l r x (OutA.mono l o)
  | exc c fs h1 =>
    rw [e] at o
    exact o
  | stuck =>
    rw [e] at o
    exact o
theorem OutE.bindT {m : MeT} {R : Bool → Hp → Prop} {Q : VK} {k : Bool → AH → Res D} (o : OutE K mg W w σ Q ((m G h).bind k))
    (hq : ∀ b h1 w1 H1, Le w w1 → RepH K w1 H1 h1 → OutE K mg W w1 σ Q (k b h1) → R b H1) : OutT K mg W w σ R (m G h) := by
  cases e : m G h with
  | ok d h1 =>
    rw [e] at o
    exact fun w1 H1 l r => hq d h1 w1 H1 l r (OutE.mono l o)
  | exc c fs h1 =>
    rw [e] at o
    exact o
  | stuck =>
    rw [e] at o
    exact o
theorem OutT.bindT {m : MeT} {R : Bool → Hp → Prop} {Q : Bool → Hp → Prop} {k : Bool → AH → Res Bool} (o : OutT K mg W w σ Q ((m G h).bind k))
    (hq : ∀ b h1 w1 H1, Le w w1 → RepH K w1 H1 h1 → OutT K mg W w1 σ Q (k b h1) → R b H1) : OutT K mg W w σ R (m G h) := by
  cases e : m G h with
  | ok d h1 =>
    rw [e] at o
    exact fun w1 H1 l r => hq d h1 w1 H1 l r (OutT.mono l o)
  | exc c fs h1 =>
    rw [e] at o
    exact o
  | stuck =>
    rw [e] at o
    exact o
theorem OutE.bindF {m : MeL} {R : VK} {Q : VK} {k : List D → AH → Res D} (o : OutE K mg W w σ Q ((m G h).bind k))
    (hq : ∀ ds h1 p xs w1 H1, Le w w1 → RepH K w1 H1 h1 → Apart w1 p → H1 p = some (.lst xs) → Ra K w1 xs ds → OutE K mg W w1 σ Q (k ds h1) → R (.ref p) H1) : OutF K mg W w σ R (m G h) := by
  cases e : m G h with
  | ok d h1 =>
    rw [e] at o
    exact fun p xs w1 H1 l r a b x => hq d h1 p xs w1 H1 l r a b x (OutE.mono l o)
  | exc c fs h1 =>
    rw [e] at o
    exact o
  | stuck =>
    rw [e] at o
    exact o
end
end AB
/-! AB: expressions. -/
namespace AB
open PySem PySem.Spec PyProof.Rows L2

theorem _root_.L2.PE.wk {X : Cx} {e : Expr} {t t' : TE} (h : PE X e t) (k : ∀ σ H Q, t' σ H Q → t σ H Q) : PE X e t' := ⟨fun pins s σ H Q I q => h.run pins s σ H Q I (k σ H Q q)⟩
theorem _root_.L2.PT.wk {X : Cx} {e : Expr} {t t' : TT} (h : PT X e t) (k : ∀ σ H Q, t' σ H Q → t σ H Q) : PT X e t' := ⟨fun pins s σ H Q I q => h.run pins s σ H Q I (k σ H Q q)⟩
theorem _root_.L2.PW.wk {X : Cx} {e : Expr} {t t' : TT} (h : PW X e t) (k : ∀ σ H Q, t' σ H Q → t σ H Q) : PW X e t' := ⟨fun wh pins s σ H Q I q => h.run wh pins s σ H Q I (k σ H Q q)⟩
theorem _root_.L2.PA.wk {X : Cx} {e : List Expr} {t t' : TA} (h : PA X e t) (k : ∀ σ H Q, t' σ H Q → t σ H Q) : PA X e t' := ⟨fun pos pins s σ H Q I q => h.run pos pins s σ H Q I (k σ H Q q)⟩

/-- the size that a display, a sum, a slice may have here -/
noncomputable def big : Nat := 1000000
theorem big_le {n : Nat} (h : n ≤ big) : n ≤ sizeLine := Nat.le_trans h (by decide)
theorem big_lt {n : Nat} (h : n < big) : n < sizeLine := Nat.lt_of_lt_of_le h (by decide)

/-! ### the combinators -/
noncomputable def mV (i : Nat) : Me := fun G h => match G[i]? with
  | some (some d) => .ok d h
  | _ => .stuck
noncomputable def mC (d : D) : Me := fun _ h => .ok d h
noncomputable def mOp2 (f : D → D → AH → Res D) (a b : Me) : Me := fun G h => (a G h).bind fun x h1 => (b G h1).bind fun y h2 => f x y h2
noncomputable def mOp1 (f : D → AH → Res D) (a : Me) : Me := fun G h => (a G h).bind fun x h1 => f x h1
noncomputable def aNil : MeL := fun _ h => .ok [] h
noncomputable def aCons (a : Me) (as : MeL) : MeL := fun G h => (a G h).bind fun x h1 => (as G h1).bind fun xs h2 => .ok (x :: xs) h2
noncomputable def mN (f : List D → AH → Res D) (as : MeL) : Me := fun G h => (as G h).bind fun xs h1 => f xs h1
noncomputable def fTup (ds : List D) (h : AH) : Res D := if ds.length ≤ big then .ok (.tup ds) h else .stuck
noncomputable def lLst (as : MeL) : MeL := fun G h => (as G h).bind fun xs h1 => if xs.length ≤ big then .ok xs h1 else .stuck
/-- a new list, as a thing that is not changed any more -/
noncomputable def mL (l : MeL) : Me := fun G h => (l G h).bind fun ds h1 => .ok (.lst ds) h1
/-- a new list, as an object of the machine's -/
noncomputable def mNew (l : MeL) : Me := fun G h => (l G h).bind fun ds h1 => .ok (.loc h1.length) (h1 ++ [.lst ds])
/-- the items of a list, of a list or tuple -/
noncomputable def vL (h : AH) : D → Option (List D)
  | .lst ds => some ds
  | .rol ds => some ds
  | .loc n => match h[n]? with
    | some (.lst ds) => some ds
    | _ => none
  | _ => none
/-- .. of a list that stands in the heap by itself -/
noncomputable def vR (h : AH) : D → Option (List D)
  | .lst ds => some ds
  | .loc n => match h[n]? with
    | some (.lst ds) => some ds
    | _ => none
  | _ => none
noncomputable def vS (h : AH) : D → Option (List D)
  | .tup ds => some ds
  | d => vL h d

section
variable {K : PySem.W.Frag} {w : Wd} {H : Hp} {h : AH} {v : V} {d : D} {ds : List D}
theorem vL_rep (r : RepH K w H h) (rv : Rv K w v d) (e : vL h d = some ds) : ∃ a xs, v = .ref a ∧ SqL K H a xs ∧ Ra K w xs ds := by
  cases rv with
  | lst a b =>
    cases e
    exact ⟨_, _, rfl, .inl (r.ex.rd a), b⟩
  | rol a b =>
    cases e
    exact ⟨_, _, rfl, r.ex.l a, b⟩
  | @loc n hn =>
    have e : (match h[n]? with
      | some (.lst ds) => some ds
      | _ => none) = some ds := e
    split at e
    · rename_i ds' e'
      cases e
      obtain ⟨_, xs, e2, ra⟩ := r.cell _ _ e'
      exact ⟨_, xs, rfl, .inl (.inl e2), ra⟩
    · cases e
  | _ => cases e
theorem vR_rep (r : RepH K w H h) (rv : Rv K w v d) (e : vR h d = some ds) : ∃ a xs, v = .ref a ∧ Rd H a (.lst xs) ∧ Ra K w xs ds := by
  cases rv with
  | lst a b =>
    cases e
    exact ⟨_, _, rfl, r.ex.rd a, b⟩
  | @loc n hn =>
    have e : (match h[n]? with
      | some (.lst ds) => some ds
      | _ => none) = some ds := e
    split at e
    · rename_i ds' e'
      cases e
      obtain ⟨_, xs, e2, ra⟩ := r.cell _ _ e'
      exact ⟨_, xs, rfl, .inl e2, ra⟩
    · cases e
  | _ => cases e
theorem vS_rep (r : RepH K w H h) (rv : Rv K w v d) (e : vS h d = some ds) : ∃ a xs, v = .ref a ∧ (SqL K H a xs ∨ SqT K H a xs) ∧ Ra K w xs ds := by
  by_cases ht : ∃ es, d = .tup es
  · obtain ⟨es, rfl⟩ := ht
    cases rv with
    | tup a b =>
      cases e
      exact ⟨_, _, rfl, .inr (r.ex.t a), b⟩
  · have e : vL h d = some ds := by
      cases d with
      | tup es => exact absurd ⟨es, rfl⟩ ht
      | _ => exact e
    obtain ⟨a, xs, h1, h2, h3⟩ := vL_rep r rv e
    exact ⟨a, xs, h1, .inl h2, h3⟩
end

section
variable {X : Cx} {W : WX} {pos : Pos}
noncomputable abbrev TM (X : Cx) (W : WX) (m : Me) : TE := tM X.K X.mg W m
noncomputable abbrev TF (X : Cx) (W : WX) (m : MeL) : TE := tF X.K X.mg W m
noncomputable abbrev TAr (X : Cx) (W : WX) (m : MeL) : TA := tAr X.K X.mg W m
noncomputable abbrev TTT (X : Cx) (W : WX) (m : MeT) : TT := tT X.K X.mg W m
/-- a step's outcome, done -/
theorem out_ok {K : PySem.W.Frag} {mg : Str → Option Value} {w : Wd} {σ : L2.St} {H : Hp} {Q : VK} {d : D} {h : AH} {v : V} (o : OutE K mg W w σ Q (.ok d h)) (r : RepH K w H h) (rv : Rv K w v d) : Q v H := o v w H (Le.refl _) r rv
/-- .. with a new thing that never changes -/
theorem out_add {K : PySem.W.Frag} {mg : Str → Option Value} {w : Wd} {σ : L2.St} {H : Hp} {Q : VK} {d : D} {h : AH} {p : Addr} {u : HO} (o : OutE K mg W w σ Q (.ok d h)) (r : RepH K w H h) (hp : H p = none) (rv : Rv K (w.add p u) (.ref p) d) : Q (.ref p) (upd H p u) :=
  o (.ref p) (w.add p u) (upd H p u) (r.le_add hp) (r.add hp) rv
theorem rv_tup {K : PySem.W.Frag} {w : Wd} {H : Hp} {h : AH} {p : Addr} {xs : List V} {ds : List D} (r : RepH K w H h) (hp : H p = none) (ra : Ra K w xs ds) : Rv K (w.add p (.tup xs)) (.ref p) (.tup ds) :=
  .tup (.inl (.inl upd_same)) (Ra_mono (r.le_add hp) ra)
theorem rv_lst {K : PySem.W.Frag} {w : Wd} {H : Hp} {h : AH} {p : Addr} {xs : List V} {ds : List D} (r : RepH K w H h) (hp : H p = none) (ra : Ra K w xs ds) : Rv K (w.add p (.lst xs)) (.ref p) (.lst ds) :=
  .lst (.inl upd_same) (Ra_mono (r.le_add hp) ra)
/-- a new list that nobody knows yet -/
theorem out_new {K : PySem.W.Frag} {mg : Str → Option Value} {w : Wd} {σ : L2.St} {H : Hp} {Q : VK} {ds : List D} {h : AH} {p : Addr} {xs : List V} (o : OutF K mg W w σ Q (.ok ds h)) (r : RepH K w H h) (hp : H p = none) (ra : Ra K w xs ds) : Q (.ref p) (upd H p (.lst xs)) := by
  refine o p xs w (upd H p (.lst xs)) (Le.refl _) ⟨fun a u e => ?_, r.len, r.inj, fun n o' e => ?_, fun a u e => by rw [upd_ne (ne_of_none (r.exF _ _ e) hp)]; exact r.exF _ _ e, r.dis⟩ ⟨r.ex.free hp, fun n hn => r.ne hn hp, r.exF.free hp⟩ upd_same ra
  · have e2 := r.ex _ _ e
    rw [upd_ne (ne_of_none e2 hp)]
    exact e2
  · obtain ⟨a, b⟩ := r.cell n o' e
    have hn : n < w.N := by
      rw [r.len]
      exact (List.getElem?_eq_some_iff.mp e).1
    exact ⟨a, b.mono (Le.refl _) (upd_ne (r.ne hn hp))⟩
/-- a list that stands apart, from now on never changed -/
theorem RepH.keep {K : PySem.W.Frag} {w : Wd} {H : Hp} {h : AH} {p : Addr} {u : HO} (r : RepH K w H h) (ap : Apart w p) (e : H p = some u) : RepH K (w.add p u) H h ∧ Le w (w.add p u) := by
  have l : Le w (w.add p u) := ⟨Ext.new ap.s, Nat.le_refl _, fun _ _ => rfl, rfl, rfl⟩
  refine ⟨⟨fun a x q => ?_, r.len, r.inj, fun n o' q => ?_, r.exF, fun a x q => ⟨by
    show upd w.S p u a = none
    have z : a ≠ p := fun z => by
      have q : w.F a = some x := q
      rw [z, ap.f] at q
      cases q
    rw [upd_ne z]
    exact (r.dis a x q).1, (r.dis a x q).2⟩⟩, l⟩
  · have q : upd w.S p u a = some x := q
    by_cases ha : a = p
    · subst ha
      rw [upd_same] at q
      rw [e, q]
    · rw [upd_ne ha] at q
      exact r.ex _ _ q
  · obtain ⟨a, b⟩ := r.cell n o' q
    have hn : n < w.N := by
      rw [r.len]
      exact (List.getElem?_eq_some_iff.mp q).1
    refine ⟨?_, b.mono l rfl⟩
    show upd w.S p u (w.mu n) = none
    rw [upd_ne (ap.m n hn)]
    exact a

/-! ### names, constants -/
theorem e_var (i : Nat) {x : Str} (hN : X.N[i]? = some x := by rfl) (hv : Vis X.env.scope x := by first | exact Or.inl rfl | exact Or.inr (Or.inl rfl) | exact Or.inr (Or.inr rfl)) (hd : (x == ("__debug__" : Str)) = false := by decide)
    (hcd : (x == ("__classdict__" : Str)) = false := by decide) : PE X (.Name x pos) (TM X W (mV i)) := by
  refine (pe_var hN hv hd hcd).wk fun σ H Q ⟨w, G, h, g, r, o⟩ => ?_
  unfold mV at o
  split at o
  · rename_i d e
    obtain ⟨v, e2, rv⟩ := g.2 i d e
    exact ⟨v, e2, out_ok o r rv⟩
  · exact o.elim
noncomputable def StRep (K : PySem.W.Frag) (v : V) (d : D) : Prop := ∀ (w : Wd), Rv K w v d
theorem e_const {e : Expr} {v : V} {d : D} (h : PE X e (tC v)) (s : StRep X.K v d) : PE X e (TM X W (mC d)) :=
  h.wk fun σ H Q ⟨w, G, h, g, r, o⟩ => out_ok o r (s w)
theorem e_int {i : Int} {j : Nat} : PE X (.Constant (.int i) j pos) (TM X W (mC (.int i))) := e_const pe_int fun _ => .int i
theorem e_bl {b : Bool} {j : Nat} : PE X (.Constant (.bool b) j pos) (TM X W (mC (.bl b))) := e_const pe_bl fun _ => .bl b
theorem e_non {j : Nat} : PE X (.Constant .none j pos) (TM X W (mC .non)) := e_const pe_non fun _ => .non
theorem e_str {x : Str} {j : Nat} : PE X (.Constant (.str x) j pos) (TM X W (mC (.str x))) := e_const pe_str fun _ => .str x
theorem e_glob {x : Str} {v : V} {u : Value} {d : D} (hm : X.mg x = some u) (rv : RelV v u) (s : StRep X.K v d) (hg : Gl X x := by rfl) (hd : (x == ("__debug__" : Str)) = false := by decide) : PE X (.Name x pos) (TM X W (mC d)) :=
  e_const (pe_glob hg hm rv hd) s

/-! ### operators -/
noncomputable def Fol2 (X : Cx) (W : WX) (f : D → D → AH → Res D) (r : R2) : Prop := ∀ (w : Wd) (h : AH) (H : Hp) (σ : L2.St) (Q : VK) (v1 v2 : V) (d1 d2 : D),
  RepH X.K w H h → Rv X.K w v1 d1 → Rv X.K w v2 d2 → OutE X.K X.mg W w σ Q (f d1 d2 h) → r v1 v2 H Q
noncomputable def Fol1 (X : Cx) (W : WX) (f : D → AH → Res D) (r : V → Hp → VK → Prop) : Prop := ∀ (w : Wd) (h : AH) (H : Hp) (σ : L2.St) (Q : VK) (v1 : V) (d1 : D),
  RepH X.K w H h → Rv X.K w v1 d1 → OutE X.K X.mg W w σ Q (f d1 h) → r v1 H Q
noncomputable def FolN (X : Cx) (W : WX) (f : List D → AH → Res D) (r : List V → Hp → VK → Prop) : Prop := ∀ (w : Wd) (h : AH) (H : Hp) (σ : L2.St) (Q : VK) (vs : List V) (ds : List D),
  RepH X.K w H h → Ra X.K w vs ds → OutE X.K X.mg W w σ Q (f ds h) → r vs H Q
noncomputable def FolF (X : Cx) (W : WX) (f : List D → AH → Res (List D)) (r : List V → Hp → VK → Prop) : Prop := ∀ (w : Wd) (h : AH) (H : Hp) (σ : L2.St) (Q : VK) (vs : List V) (ds : List D),
  RepH X.K w H h → Ra X.K w vs ds → OutF X.K X.mg W w σ Q (f ds h) → r vs H Q
variable {a b : Expr} {ma mb : Me}
theorem op2 {f : D → D → AH → Res D} {r : R2} (hf : Fol2 X W f r) {σ : L2.St} {H : Hp} {Q : VK} (t : TM X W (mOp2 f ma mb) σ H Q) : tOp r (TM X W ma) (TM X W mb) σ H Q := by
  obtain ⟨w, G, h, g, rh, o⟩ := t
  refine ⟨w, G, h, g, rh, o.bindE fun d h1 v w1 H1 l r1 x o1 => ⟨w1, G, h1, g.mono l, r1, o1.bindE fun d2 h2 v2 w2 H2 l2 r2 x2 o2 => ?_⟩⟩
  exact hf w2 h2 H2 σ Q v v2 d d2 r2 (Rv_mono l2 x) x2 o2
theorem e_bin {f : D → D → AH → Res D} {r : R2} {op : Operator} (ho : OpR X (binaryOp op) r) (hf : Fol2 X W f r) (ha : PE X a (TM X W ma)) (hb : PE X b (TM X W mb)) : PE X (.BinOp a op b pos) (TM X W (mOp2 f ma mb)) :=
  (pe_op ho ha hb).wk fun _ _ _ t => op2 hf t
theorem e_cmp {f : D → D → AH → Res D} {r : R2} {op : CmpOp} (ho : OpR X (compareOp op) r) (hf : Fol2 X W f r) (ha : PE X a (TM X W ma)) (hb : PE X b (TM X W mb)) (hm : behindInMarks op b = false := by rfl) : PE X (.Compare a [op] [b] pos) (TM X W (mOp2 f ma mb)) :=
  (pe_cmpR ho ha hb hm).wk fun _ _ _ t => op2 hf t
theorem e_un {f : D → AH → Res D} {r : V → Hp → VK → Prop} {op : UnaryOp} (ho : UnR X (unaryOp op) r) (hf : Fol1 X W f r) (ha : PE X a (TM X W ma)) : PE X (.UnaryOp op a pos) (TM X W (mOp1 f ma)) := by
  refine (pe_un ho ha).wk fun σ H Q ⟨w, G, h, g, rh, o⟩ => ⟨w, G, h, g, rh, o.bindE fun d h1 v w1 H1 l r1 x o1 => ?_⟩
  exact hf w1 h1 H1 σ Q v d r1 x o1
/-! ints -/
noncomputable def fAdd (x y : D) (h : AH) : Res D := match x, y with
  | .int i, .int j => .ok (.int (i + j)) h
  | .str i, .str j => if i.length + j.length ≤ big then .ok (.str (i ++ j)) h else .stuck
  | .tup xs, .tup ys => if xs.length + ys.length ≤ big then .ok (.tup (xs ++ ys)) h else .stuck
  | x, y => match vR h x, vR h y with
    | some xs, some ys => if xs.length + ys.length ≤ big then .ok (.lst (xs ++ ys)) h else .stuck
    | _, _ => .stuck
noncomputable def fSub (x y : D) (h : AH) : Res D := match x, y with
  | .int i, .int j => .ok (.int (i - j)) h
  | _, _ => .stuck
/-- a factor within 2 ^ 60 -/
noncomputable def fMul (x y : D) (h : AH) : Res D := match x, y with
  | .int i, .int j => if (-(2 ^ 60) ≤ i ∧ i ≤ 2 ^ 60) ∨ (-(2 ^ 60) ≤ j ∧ j ≤ 2 ^ 60) then .ok (.int (i * j)) h else .stuck
  | _, _ => .stuck
noncomputable def fMod (x y : D) (h : AH) : Res D := match x, y with
  | .int i, .int j => if 0 < j then .ok (.int (i % j)) h else .stuck
  | _, _ => .stuck
noncomputable def fDiv (x y : D) (h : AH) : Res D := match x, y with
  | .int i, .int j => if 0 < j ∧ j ≤ 2 ^ 60 then .ok (.int (i / j)) h else .stuck
  | _, _ => .stuck
noncomputable def fPow (x y : D) (h : AH) : Res D := match x, y with
  | .int i, .int j => if 0 ≤ j ∧ j ≤ 1000 ∧ 0 ≤ i ∧ i ≤ 1000 then .ok (.int (i ^ j.toNat)) h else .stuck
  | _, _ => .stuck
noncomputable def fNeg (x : D) (h : AH) : Res D := match x with
  | .int i => .ok (.int (-i)) h
  | _ => .stuck
noncomputable def fIsN (x y : D) (h : AH) : Res D := match x, y with
  | .non, .non => .ok (.bl true) h
  | _, .non => .ok (.bl false) h
  | _, _ => .stuck
theorem fol_int {g : Int → Int → V} {f : D → D → AH → Res D} {e : Int → Int → D} (hs : ∀ i j w, Rv X.K w (g i j) (e i j)) (hf : ∀ x y h, (∃ i j, x = .int i ∧ y = .int j ∧ f x y h = .ok (e i j) h) ∨ f x y h = .stuck) : Fol2 X W f (rI0 g) := by
  intro w h H σ Q v1 v2 d1 d2 rh r1 r2 o
  rcases hf d1 d2 h with ⟨i, j, rfl, rfl, z⟩ | z
  · rw [z] at o
    cases r1
    cases r2
    exact ⟨i, j, rfl, rfl, out_ok o rh (hs i j w)⟩
  · rw [z] at o
    exact o.elim
theorem fol_sub : Fol2 X W fSub (rI0 fun i j => .int (i - j)) := fol_int (e := fun i j => .int (i - j)) (fun _ _ _ => .int _) fun x y h => by
  cases x <;> cases y <;> first | exact .inr rfl | exact .inl ⟨_, _, rfl, rfl, rfl⟩
theorem fol_intC {C : Int → Int → Prop} {g : Int → Int → V} {f : D → D → AH → Res D} {e : Int → Int → D} (hs : ∀ i j w, Rv X.K w (g i j) (e i j)) (hf : ∀ x y h, (∃ i j, x = .int i ∧ y = .int j ∧ C i j ∧ f x y h = .ok (e i j) h) ∨ f x y h = .stuck) : Fol2 X W f (rI C g) := by
  intro w h H σ Q v1 v2 d1 d2 rh r1 r2 o
  rcases hf d1 d2 h with ⟨i, j, rfl, rfl, c, z⟩ | z
  · rw [z] at o
    cases r1
    cases r2
    exact ⟨i, j, rfl, rfl, c, out_ok o rh (hs i j w)⟩
  · rw [z] at o
    exact o.elim
theorem fol_mul : Fol2 X W fMul (rI CMul fun i j => .int (i * j)) := fol_intC (e := fun i j => .int (i * j)) (fun _ _ _ => .int _) fun x y h => by
  cases x with
  | int i =>
    cases y with
    | int j =>
      show (∃ i' j', _) ∨ (if _ then _ else _) = _
      by_cases c : (-(2 ^ 60) ≤ i ∧ i ≤ 2 ^ 60) ∨ (-(2 ^ 60) ≤ j ∧ j ≤ 2 ^ 60)
      · refine .inl ⟨i, j, rfl, rfl, ?_, if_pos c⟩
        rcases c with c | c
        · exact .inl ⟨by omega, by omega⟩
        · exact .inr ⟨by omega, by omega⟩
      · exact .inr (if_neg c)
    | _ => exact .inr rfl
  | _ => exact .inr rfl
theorem fol_mod : Fol2 X W fMod (rI (fun _ j => 0 < j) fun i j => .int (i % j)) := fol_intC (e := fun i j => .int (i % j)) (fun _ _ _ => .int _) fun x y h => by
  cases x with
  | int i =>
    cases y with
    | int j =>
      show (∃ i' j', _) ∨ (if _ then _ else _) = _
      by_cases c : 0 < j
      · exact .inl ⟨i, j, rfl, rfl, c, if_pos c⟩
      · exact .inr (if_neg c)
    | _ => exact .inr rfl
  | _ => exact .inr rfl
theorem fol_div : Fol2 X W fDiv (rI CDivW fun i j => .int (i / j)) := fol_intC (e := fun i j => .int (i / j)) (fun _ _ _ => .int _) fun x y h => by
  cases x with
  | int i =>
    cases y with
    | int j =>
      show (∃ i' j', _) ∨ (if _ then _ else _) = _
      by_cases c : 0 < j ∧ j ≤ 2 ^ 60
      · exact .inl ⟨i, j, rfl, rfl, wide_div (b := 61) c.1 (by omega) (by decide) (by decide), if_pos c⟩
      · exact .inr (if_neg c)
    | _ => exact .inr rfl
  | _ => exact .inr rfl
theorem fol_pow : Fol2 X W fPow (rI CPow fun i j => .int (i ^ j.toNat)) := fol_intC (e := fun i j => .int (i ^ j.toNat)) (fun _ _ _ => .int _) fun x y h => by
  cases x with
  | int i =>
    cases y with
    | int j =>
      show (∃ i' j', _) ∨ (if _ then _ else _) = _
      by_cases c : 0 ≤ j ∧ j ≤ 1000 ∧ 0 ≤ i ∧ i ≤ 1000
      · exact .inl ⟨i, j, rfl, rfl, ⟨by omega, by omega, by omega⟩, if_pos c⟩
      · exact .inr (if_neg c)
    | _ => exact .inr rfl
  | _ => exact .inr rfl
theorem fol_neg : Fol1 X W fNeg (rU fun i => .int (-i)) := by
  intro w h H σ Q v1 d1 rh r1 o
  cases r1 with
  | int i => exact ⟨i, rfl, out_ok o rh (.int _)⟩
  | _ => exact o.elim
/-- two lists -/
noncomputable def rCatR : R2 := fun x y H Q => ∃ l b xs zs, x = .ref l ∧ y = .ref b ∧ Rd H l (.lst xs) ∧ Rd H b (.lst zs) ∧ xs.length + zs.length ≤ sizeLine ∧ ∀ p, H p = none → Q (.ref p) (upd H p (.lst (xs ++ zs)))
theorem op_catR : OpR X (binaryOp .Add) rCatR := by
  intro pins s σ H x y v u Q I rx ry h
  obtain ⟨l, b, xs, zs, rfl, rfl, hH, hB, hz, q⟩ := h
  cases rx
  cases ry
  obtain ⟨z, its, n, r, e⟩ := hH.ok I.hok
  obtain ⟨z2, its2, n2, r2, e2⟩ := hB.ok I.hok
  have hl := r.length
  have hl2 := r2.length
  refine PySem.P.add_list e e2 ?_ (by rw [List.size_toArray, List.size_toArray]; omega)
  have ea : its.toArray ++ its2.toArray = (its ++ its2).toArray := by simp
  rw [ea]
  exact ⟨.ref _, _, I.lnew (t' := s.toks) (r.append r2) (by rw [List.length_append]; omega), rfl, q _ I.fresh⟩
noncomputable def rAdd3 (K : PySem.W.Frag) : R2 := fun x y H Q => (rI0 (fun i j => .int (i + j)) x y H Q) ∨ ((∃ i j, x = .str i ∧ y = .str j ∧ i.length + j.length ≤ sizeLine ∧ Q (.str (i ++ j)) H) ∨ (rCatA K x y H Q ∨ rCatR x y H Q))
theorem op_add3 : OpR X (binaryOp .Add) (rAdd3 X.K) := OpR.or op_add (OpR.or op_add_str (OpR.or op_catA op_catR))
theorem fol_add : Fol2 X W fAdd (rAdd3 X.K) := by
  intro w h H σ Q v1 v2 d1 d2 rh r1 r2 o
  have lists : OutE X.K X.mg W w σ Q (match vR h d1, vR h d2 with
    | some xs, some ys => if xs.length + ys.length ≤ big then .ok (.lst (xs ++ ys)) h else .stuck
    | _, _ => .stuck) → rAdd3 X.K v1 v2 H Q := by
    intro o
    split at o
    · rename_i xs ys e1 e2
      split at o
      · rename_i c
        obtain ⟨a, us, rfl, h1, h2⟩ := vR_rep rh r1 e1
        obtain ⟨b, ws, rfl, g1, g2⟩ := vR_rep rh r2 e2
        have lx := h2.length
        have ly := g2.length
        exact .inr (.inr (.inr ⟨a, b, us, ws, rfl, rfl, h1, g1, big_le (by omega), fun p hp => out_add o rh hp (rv_lst rh hp (h2.append g2))⟩))
      · exact o.elim
    · exact o.elim
  unfold fAdd at o
  split at o
  · cases r1
    cases r2
    exact .inl ⟨_, _, rfl, rfl, out_ok o rh (.int _)⟩
  · split at o
    · rename_i c
      cases r1
      cases r2
      exact .inr (.inl ⟨_, _, rfl, rfl, big_le c, out_ok o rh (.str _)⟩)
    · exact o.elim
  · split at o
    · rename_i c
      cases r1 with
      | @tup p xs ds h1 h2 =>
        cases r2 with
        | @tup q ys es g1 g2 =>
          have lx := h2.length
          have ly := g2.length
          refine .inr (.inr (.inl ⟨p, q, xs, ys, rfl, rfl, rh.ex.t h1, rh.ex.t g1, big_le (by omega), fun ex => ?_, fun _ ey => ?_, fun _ _ z hz => ?_⟩))
          · subst ex
            cases h2
            exact out_ok o rh (.tup g1 g2)
          · subst ey
            cases g2
            rw [List.append_nil] at o
            exact out_ok o rh (.tup h1 h2)
          · exact out_add o rh hz (rv_tup rh hz (h2.append g2))
    · exact o.elim
  · exact lists o
theorem fol_isN : Fol2 X W fIsN (fun x y H Q => y = .non ∧ Q (.bl (decide (x = .non))) H) := by
  intro w h H σ Q v1 v2 d1 d2 rh r1 r2 o
  cases r2 with
  | non =>
    refine ⟨rfl, ?_⟩
    cases r1 <;> exact out_ok o rh (.bl _)
  | _ => cases r1 <;> exact o.elim
noncomputable def fIsB (x y : D) (h : AH) : Res D := match x, y with
  | .bl i, .bl j => .ok (.bl (decide (i = j))) h
  | _, _ => .stuck
noncomputable def fNotB (x y : D) (h : AH) : Res D := match x, y with
  | .bl i, .bl j => .ok (.bl (!decide (i = j))) h
  | _, _ => .stuck
/-! ### argument lists, displays -/
variable {es : List Expr} {e : Expr} {as : MeL}
theorem a_nil : PA X [] (TAr X W aNil) := pa_nil.wk fun σ H Q ⟨w, G, h, g, r, o⟩ => o [] w H (Le.refl _) r .nil
theorem a_cons (he : PE X e (TM X W ma)) (ha : PA X es (TAr X W as)) (hs : starEach (e :: es) X.env = (false, eval e X.env) :: starEach es X.env := by rfl) : PA X (e :: es) (TAr X W (aCons ma as)) :=
  (pa_cons he ha hs).wk fun σ H Q ⟨w, G, h, g, r, o⟩ => ⟨w, G, h, g, r, o.bindE fun d h1 v w1 H1 l r1 x o1 => ⟨w1, G, h1, g.mono l, r1, o1.bindA fun ds h2 vs w2 H2 l2 r2 xs o2 => o2 _ w2 H2 (Le.refl _) r2 (.cons (Rv_mono l2 x) xs)⟩⟩
theorem e_tup {x1} (ha : PA X es (TAr X W as)) : PE X (.Tuple es x1 pos) (TM X W (mN fTup as)) := by
  refine (pe_tup ha).wk fun σ H Q ⟨w, G, h, g, r, o⟩ => ⟨w, G, h, g, r, o.bindA fun ds h1 vs w1 H1 l r1 x o1 => ?_⟩
  unfold fTup at o1
  split at o1
  · rename_i c
    exact ⟨big_le (by rw [x.length]; exact c), fun p hp => out_add o1 r1 hp (rv_tup r1 hp x)⟩
  · exact o1.elim
theorem f_lst {x1} (ha : PA X es (TAr X W as)) : PE X (.List es x1) (TF X W (lLst as)) := by
  refine (pe_lst ha).wk fun σ H Q ⟨w, G, h, g, r, o⟩ => ⟨w, G, h, g, r, o.bindA fun ds h1 vs w1 H1 l r1 x o1 => ?_⟩
  split at o1
  · rename_i c
    exact ⟨big_le (by rw [x.length]; exact c), fun p hp => out_new o1 r1 hp x⟩
  · exact o1.elim
/-- a new list, never changed from now on; a new list as an object -/
theorem L_read {l : MeL} {σ : L2.St} {H : Hp} {Q : VK} (t : TM X W (mL l) σ H Q) : TF X W l σ H Q := by
  obtain ⟨w, G, h, g, r, o⟩ := t
  refine ⟨w, G, h, g, r, OutE.bindF (m := l) o fun ds h1 p xs w1 H1 l r1 ap hp x o1 => ?_⟩
  obtain ⟨r2, l2⟩ := r1.keep ap hp
  exact o1 _ _ H1 l2 r2 (.lst (.inl upd_same) (Ra_mono l2 x))
theorem e_L {l : MeL} (he : PE X e (TF X W l)) : PE X e (TM X W (mL l)) := he.wk fun _ _ _ t => L_read t
theorem new_read {l : MeL} {σ : L2.St} {H : Hp} {Q : VK} (t : TM X W (mNew l) σ H Q) : TF X W l σ H Q := by
  obtain ⟨w, G, h, g, r, o⟩ := t
  refine ⟨w, G, h, g, r, OutE.bindF (m := l) o fun ds h1 p xs w1 H1 l r1 ap hp x o1 => ?_⟩
  refine o1 _ (w1.push p) H1 (w1.le_push p) (r1.push ap ⟨xs, hp, Ra_mono (w1.le_push p) x⟩) ?_
  have e1 : h1.length = w1.N := r1.len.symm
  rw [e1]
  have e2 : (w1.push p).mu w1.N = p := w1.push_mu p
  have q : Rv X.K (w1.push p) (.ref ((w1.push p).mu w1.N)) (.loc w1.N) := .loc (Nat.lt_succ_self _)
  rw [e2] at q
  exact q
theorem e_new {l : MeL} (he : PE X e (TF X W l)) : PE X e (TM X W (mNew l)) := he.wk fun _ _ _ t => new_read t
end
end AB
/-! AB: calls, truth, equality, subscripts. -/
namespace AB
open PySem PySem.Spec PyProof.Rows L2

/-! ### data of the library's -/
mutual
noncomputable def toP : D → Option PyData
  | .non => some .none
  | .bl b => some (.bool b)
  | .int i => some (.int i)
  | .str x => some (.str x)
  | .tup ds => (toPs ds).map .tuple
  | .lst ds => (toPs ds).map .list
  | .rol _ => none
  | .loc _ => none
  | .con _ => none
noncomputable def toPs : List D → Option (List PyData)
  | [] => some []
  | d :: ds => match toP d, toPs ds with
    | some p, some ps => some (p :: ps)
    | _, _ => none
end
/-- a list of the machine's, read as it stands -/
noncomputable def toPh (h : AH) (d : D) : Option PyData := match d with
  | .loc n => match h[n]? with
    | some (.lst ds) => (toPs ds).map .list
    | _ => none
  | d => toP d
section
variable {K : PySem.W.Frag} {w : Wd} {H : Hp} {h : AH}
mutual
theorem toP_rep (ex : Ext w.S H) : ∀ (d : D) (v : V) (p : PyData), Rv K w v d → toP d = some p → Dp K H v p
  | .non, _, _, r, e => by cases r; cases e; exact .non
  | .bl _, _, _, r, e => by cases r; cases e; exact .bl _
  | .int _, _, _, r, e => by cases r; cases e; exact .int _
  | .str _, _, _, r, e => by cases r; cases e; exact .str _
  | .tup ds, _, p, r, e => by
    cases r with
    | tup a b =>
      unfold toP at e
      cases q : toPs ds with
      | none => rw [q] at e; cases e
      | some ps =>
        rw [q] at e
        cases e
        exact .tup (ex.t a) (toPs_rep ex ds _ ps b q)
  | .lst ds, _, p, r, e => by
    cases r with
    | lst a b =>
      unfold toP at e
      cases q : toPs ds with
      | none => rw [q] at e; cases e
      | some ps =>
        rw [q] at e
        cases e
        exact .lst (.inl (ex.rd a)) (toPs_rep ex ds _ ps b q)
  | .rol _, _, _, _, e => by cases e
  | .loc _, _, _, _, e => by cases e
  | .con _, _, _, _, e => by cases e
theorem toPs_rep (ex : Ext w.S H) : ∀ (ds : List D) (vs : List V) (ps : List PyData), Ra K w vs ds → toPs ds = some ps → DpAll K H vs ps
  | [], _, _, r, e => by cases r; cases e; exact .nil
  | d :: ds, _, ps, r, e => by
    cases r with
    | cons a b =>
      unfold toPs at e
      cases q1 : toP d with
      | none => rw [q1] at e; cases e
      | some p =>
        cases q2 : toPs ds with
        | none => rw [q1, q2] at e; cases e
        | some qs =>
          rw [q1, q2] at e
          cases e
          exact .cons (toP_rep ex d _ p a q1) (toPs_rep ex ds _ qs b q2)
end
theorem toPh_rep (r : RepH K w H h) {v : V} {d : D} {p : PyData} (rv : Rv K w v d) (e : toPh h d = some p) : Dp K H v p := by
  cases rv with
  | @loc n hn =>
    have e : (match h[n]? with
      | some (.lst ds) => (toPs ds).map .list
      | _ => none) = some p := e
    split at e
    · rename_i ds e'
      obtain ⟨_, xs, e2, ra⟩ := r.cell _ _ e'
      cases q : toPs ds with
      | none => rw [q] at e; cases e
      | some ps =>
        rw [q] at e
        cases e
        exact .lst (.inl (.inl e2)) (toPs_rep r.ex ds _ ps ra q)
    · cases e
  | non => exact toP_rep r.ex _ _ p .non e
  | bl b => exact toP_rep r.ex _ _ p (.bl b) e
  | int b => exact toP_rep r.ex _ _ p (.int b) e
  | str b => exact toP_rep r.ex _ _ p (.str b) e
  | tup a b => exact toP_rep r.ex _ _ p (.tup a b) e
  | lst a b => exact toP_rep r.ex _ _ p (.lst a b) e
  | con => cases e
  | rol => cases e
end
/-- both read, of a shape that the library compares -/
noncomputable def okP (h : AH) (d : D) : Option PyData := match toPh h d with
  | some p => if SeqAt.shaped p = true then some p else none
  | none => none
theorem okP_some {h : AH} {d : D} {p : PyData} (e : okP h d = some p) : toPh h d = some p ∧ SeqAt.shaped p = true := by
  unfold okP at e
  split at e
  · split at e
    · cases e
      exact ⟨by assumption, by assumption⟩
    · cases e
  · cases e
noncomputable def fEq (x y : D) (h : AH) : Res D := match okP h x, okP h y with
  | some p, some q => .ok (.bl (PyData.eqv p q)) h
  | _, _ => .stuck
noncomputable def fNe (x y : D) (h : AH) : Res D := match okP h x, okP h y with
  | some p, some q => .ok (.bl (!PyData.eqv p q)) h
  | _, _ => .stuck
/-- x in a list or tuple -/
noncomputable def inD (h : AH) (x y : D) : Option Bool := match okP h x, okP h y with
  | some p, some (.list qs) => some (qs.any fun z => PyData.eqv z p)
  | some p, some (.tuple qs) => some (qs.any fun z => PyData.eqv z p)
  | _, _ => none
noncomputable def fIn (x y : D) (h : AH) : Res D := match inD h x y with
  | some b => .ok (.bl b) h
  | none => .stuck
noncomputable def fNotIn (x y : D) (h : AH) : Res D := match inD h x y with
  | some b => .ok (.bl (!b)) h
  | none => .stuck
section
variable {X : Cx} {W : WX}
theorem fol_eq : Fol2 X W fEq (rEqD X.K) := by
  intro w h H σ Q v1 v2 d1 d2 rh r1 r2 o
  unfold fEq at o
  split at o
  · rename_i p q e1 e2
    obtain ⟨a1, a2⟩ := okP_some e1
    obtain ⟨b1, b2⟩ := okP_some e2
    exact ⟨p, q, toPh_rep rh r1 a1, toPh_rep rh r2 b1, a2, b2, out_ok o rh (.bl _)⟩
  · exact o.elim
theorem fol_ne : Fol2 X W fNe (rNeD X.K) := by
  intro w h H σ Q v1 v2 d1 d2 rh r1 r2 o
  unfold fNe at o
  split at o
  · rename_i p q e1 e2
    obtain ⟨a1, a2⟩ := okP_some e1
    obtain ⟨b1, b2⟩ := okP_some e2
    exact ⟨p, q, toPh_rep rh r1 a1, toPh_rep rh r2 b1, a2, b2, out_ok o rh (.bl _)⟩
  · exact o.elim
/-- x in y, x not in y: a list or a tuple -/
noncomputable def rInA (K : PySem.W.Frag) (neg : Bool) : R2 := fun x y H Q => ∃ d ds, Dp K H x d ∧ (Dp K H y (.list ds) ∨ Dp K H y (.tuple ds)) ∧ SeqAt.shaped d = true ∧ SeqAt.shaped (.list ds) = true ∧ Q (.bl (if neg then !(ds.any fun z => PyData.eqv z d) else ds.any fun z => PyData.eqv z d)) H
theorem op_inA (hu : X.A.units + 65 < cLine) : OpR X (compareOp .In) (rInA X.K false) := by
  intro pins s σ H x y v u Q I rx ry h
  obtain ⟨d, ds, hd, he, sd, se, q⟩ := h
  obtain ⟨as, r1⟩ := Dp.reads I d x v hd rx
  rcases he with he | he
  · obtain ⟨bs, r2⟩ := Dp.reads I (.list ds) y u he ry
    exact SeqAt.in_list_reads r2 r1 (SeqAt.canLay_of_shaped se) (SeqAt.canLay_of_shaped sd) (room_in_shaped sd hu) ⟨.bl _, H, I, rfl, q⟩
  · obtain ⟨bs, r2⟩ := Dp.reads I (.tuple ds) y u he ry
    exact SeqAt.in_tuple_reads r2 r1 (SeqAt.canLay_of_shaped se) (SeqAt.canLay_of_shaped sd) (room_in_shaped sd hu) ⟨.bl _, H, I, rfl, q⟩
theorem op_notInA (hu : X.A.units + 65 < cLine) : OpR X (compareOp .NotIn) (rInA X.K true) := by
  intro pins s σ H x y v u Q I rx ry h
  obtain ⟨d, ds, hd, he, sd, se, q⟩ := h
  obtain ⟨as, r1⟩ := Dp.reads I d x v hd rx
  rcases he with he | he
  · obtain ⟨bs, r2⟩ := Dp.reads I (.list ds) y u he ry
    exact SeqAt.notIn_list_reads r2 r1 (SeqAt.canLay_of_shaped se) (SeqAt.canLay_of_shaped sd) (room_in_shaped sd hu) ⟨.bl _, H, I, rfl, q⟩
  · obtain ⟨bs, r2⟩ := Dp.reads I (.tuple ds) y u he ry
    exact SeqAt.notIn_tuple_reads r2 r1 (SeqAt.canLay_of_shaped se) (SeqAt.canLay_of_shaped sd) (room_in_shaped sd hu) ⟨.bl _, H, I, rfl, q⟩
theorem inD_rep {K : PySem.W.Frag} {w : Wd} {H : Hp} {h : AH} {v1 v2 : V} {d1 d2 : D} {b : Bool} (rh : RepH K w H h) (r1 : Rv K w v1 d1) (r2 : Rv K w v2 d2) (e : inD h d1 d2 = some b) :
    ∃ d ds, Dp K H v1 d ∧ (Dp K H v2 (.list ds) ∨ Dp K H v2 (.tuple ds)) ∧ SeqAt.shaped d = true ∧ SeqAt.shaped (.list ds) = true ∧ b = ds.any fun z => PyData.eqv z d := by
  unfold inD at e
  split at e
  · rename_i p qs e1 e2
    obtain ⟨a1, a2⟩ := okP_some e1
    obtain ⟨b1, b2⟩ := okP_some e2
    cases e
    exact ⟨p, qs, toPh_rep rh r1 a1, .inl (toPh_rep rh r2 b1), a2, b2, rfl⟩
  · rename_i p qs e1 e2
    obtain ⟨a1, a2⟩ := okP_some e1
    obtain ⟨b1, b2⟩ := okP_some e2
    cases e
    exact ⟨p, qs, toPh_rep rh r1 a1, .inr (toPh_rep rh r2 b1), a2, b2, rfl⟩
  · cases e
theorem fol_in : Fol2 X W fIn (rInA X.K false) := by
  intro w h H σ Q v1 v2 d1 d2 rh r1 r2 o
  unfold fIn at o
  split at o
  · rename_i b e
    obtain ⟨d, ds, q1, q2, q3, q4, rfl⟩ := inD_rep rh r1 r2 e
    exact ⟨d, ds, q1, q2, q3, q4, out_ok o rh (.bl _)⟩
  · exact o.elim
theorem fol_notIn : Fol2 X W fNotIn (rInA X.K true) := by
  intro w h H σ Q v1 v2 d1 d2 rh r1 r2 o
  unfold fNotIn at o
  split at o
  · rename_i b e
    obtain ⟨d, ds, q1, q2, q3, q4, rfl⟩ := inD_rep rh r1 r2 e
    exact ⟨d, ds, q1, q2, q3, q4, out_ok o rh (.bl _)⟩
  · exact o.elim
end

/-! ### truth, tests -/
noncomputable def truD (h : AH) : D → Option Bool
  | .non => some false
  | .bl b => some b
  | .int i => some (i != 0)
  | d => (vS h d).map fun ds => !ds.isEmpty
noncomputable def tOf (m : Me) : MeT := fun G h => (m G h).bind fun d h1 => match truD h1 d with
  | some b => .ok b h1
  | none => .stuck
/-- a bool's own -/
noncomputable def tBl (m : Me) : MeT := fun G h => (m G h).bind fun d h1 => match d with
  | .bl b => .ok b h1
  | _ => .stuck
noncomputable def tAndM (a b : MeT) : MeT := fun G h => (a G h).bind fun c h1 => if c = true then b G h1 else .ok false h1
noncomputable def tOrM (a b : MeT) : MeT := fun G h => (a G h).bind fun c h1 => if c = true then .ok true h1 else b G h1
noncomputable def tNotM (a : MeT) : MeT := fun G h => (a G h).bind fun c h1 => .ok (!c) h1
noncomputable def mAnd (a b : Me) : Me := fun G h => (a G h).bind fun d h1 => match truD h1 d with
  | some true => b G h1
  | some false => .ok d h1
  | none => .stuck
noncomputable def mOr (a b : Me) : Me := fun G h => (a G h).bind fun d h1 => match truD h1 d with
  | some true => .ok d h1
  | some false => b G h1
  | none => .stuck
noncomputable def mNot (a : Me) : Me := fun G h => (a G h).bind fun d h1 => match truD h1 d with
  | some b => .ok (.bl (!b)) h1
  | none => .stuck
noncomputable def mIf (c : MeT) (a b : Me) : Me := fun G h => (c G h).bind fun t h1 => if t = true then a G h1 else b G h1
theorem truD_rep {K : PySem.W.Frag} {w : Wd} {H : Hp} {h : AH} {v : V} {d : D} {b : Bool} (rh : RepH K w H h) (rv : Rv K w v d) (e : truD h d = some b) : TruV K v H b := by
  have seq : ∀ {ds : List D}, vS h d = some ds → b = (!ds.isEmpty) → TruV K v H b := by
    intro ds q hb
    obtain ⟨a, xs, rfl, sq, ra⟩ := vS_rep rh rv q
    have eb : b = !xs.isEmpty := by
      rw [hb]
      cases ra <;> rfl
    rcases sq with sq | sq
    · exact .inl ⟨xs, sq, eb⟩
    · exact .inr (.inl ⟨xs, sq, eb⟩)
  cases d with
  | non => cases rv; cases e; rfl
  | bl c => cases rv; cases e; rfl
  | int c => cases rv; cases e; rfl
  | str c => cases e
  | con c => cases e
  | tup ds => cases e; exact seq rfl rfl
  | lst ds => cases e; exact seq rfl rfl
  | rol ds => cases e; exact seq rfl rfl
  | loc n =>
    have e : (vS h (.loc n)).map (fun ds : List D => !ds.isEmpty) = some b := e
    cases q : vS h (.loc n) with
    | none => rw [q] at e; cases e
    | some ds =>
      rw [q] at e
      cases e
      exact seq q rfl
section
variable {X : Cx} {W : WX} {pos : Pos} {a b c : Expr} {rest : List Expr} {ma mb : Me} {ta tb tc : MeT}
theorem t_tru (ha : PE X a (TM X W ma)) (he : ∀ whole, isTrue a X.env whole = (do let v ← whole; standAt a.pos; holding [v] (truthy v)) := by intro _; rfl) : PT X a (TTT X W (tOf ma)) := by
  refine (pt_truth ha he).wk fun σ H Q ⟨w, G, h, g, r, o⟩ => ⟨w, G, h, g, r, o.bindE fun d h1 v w1 H1 l r1 x o1 => ?_⟩
  split at o1
  · rename_i k e
    exact ⟨k, truD_rep r1 x e, o1 w1 H1 (Le.refl _) r1⟩
  · exact o1.elim
/-- a comparison -/
theorem t_cmp {f : D → D → AH → Res D} {r : R2} {op : CmpOp} (ho : OpR X (compareOp op) r) (hf : Fol2 X W f r) (ha : PE X a (TM X W ma)) (hb : PE X b (TM X W mb)) (hm : behindInMarks op b = false := by rfl) : PT X (.Compare a [op] [b] pos) (TTT X W (tBl (mOp2 f ma mb))) := by
  refine (pt_cmpR ho ha hb hm).wk fun σ H Q ⟨w, G, h, g, r, o⟩ => ?_
  refine op2 hf ⟨w, G, h, g, r, o.bindE fun d h1 v w1 H1 l r1 x o1 => ?_⟩
  split at o1
  · cases x
    exact ⟨_, rfl, o1 w1 H1 (Le.refl _) r1⟩
  · exact o1.elim
theorem t_not (ha : PT X a (TTT X W ta)) : PT X (.UnaryOp .Not a pos) (TTT X W (tNotM ta)) :=
  (pt_not ha).wk fun σ H Q ⟨w, G, h, g, r, o⟩ => ⟨w, G, h, g, r, o.bindT fun b h1 w1 H1 l r1 o1 => o1 w1 H1 (Le.refl _) r1⟩
theorem w_one (op : BoolOp) (ha : PT X a (TTT X W ta)) : PW X (.BoolOp op [a] pos) (TTT X W ta) := by
  cases op
  · exact pw_and1 ha
  · exact pw_or1 ha
theorem w_and (ha : PT X a (TTT X W ta)) (hb : PW X (.BoolOp .And (b :: rest) pos) (TTT X W tb)) : PW X (.BoolOp .And (a :: b :: rest) pos) (TTT X W (tAndM ta tb)) := by
  refine (pw_and ha hb).wk fun σ H Q ⟨w, G, h, g, r, o⟩ => ⟨w, G, h, g, r, o.bindT fun c h1 w1 H1 l r1 o1 => ?_⟩
  cases c with
  | true => exact ⟨w1, G, h1, g.mono l, r1, o1⟩
  | false => exact o1 w1 H1 (Le.refl _) r1
theorem w_or (ha : PT X a (TTT X W ta)) (hb : PW X (.BoolOp .Or (b :: rest) pos) (TTT X W tb)) : PW X (.BoolOp .Or (a :: b :: rest) pos) (TTT X W (tOrM ta tb)) := by
  refine (pw_or ha hb).wk fun σ H Q ⟨w, G, h, g, r, o⟩ => ⟨w, G, h, g, r, o.bindT fun c h1 w1 H1 l r1 o1 => ?_⟩
  cases c with
  | true => exact o1 w1 H1 (Le.refl _) r1
  | false => exact ⟨w1, G, h1, g.mono l, r1, o1⟩
theorem e_one {op : BoolOp} (ha : PE X a (TM X W ma)) : PE X (.BoolOp op [a] pos) (TM X W ma) := pe_one ha
theorem e_and (ha : PE X a (TM X W ma)) (hb : PE X (.BoolOp .And (b :: rest) pos) (TM X W mb)) : PE X (.BoolOp .And (a :: b :: rest) pos) (TM X W (mAnd ma mb)) := by
  refine (pe_andT ha hb).wk fun σ H Q ⟨w, G, h, g, r, o⟩ => ⟨w, G, h, g, r, o.bindE fun d h1 v w1 H1 l r1 x o1 => ?_⟩
  split at o1
  · rename_i e
    exact ⟨true, truD_rep r1 x e, iteT ⟨w1, G, h1, g.mono l, r1, o1⟩⟩
  · rename_i e
    exact ⟨false, truD_rep r1 x e, iteF (out_ok o1 r1 x)⟩
  · exact o1.elim
theorem e_or (ha : PE X a (TM X W ma)) (hb : PE X (.BoolOp .Or (b :: rest) pos) (TM X W mb)) : PE X (.BoolOp .Or (a :: b :: rest) pos) (TM X W (mOr ma mb)) := by
  refine (pe_orT ha hb).wk fun σ H Q ⟨w, G, h, g, r, o⟩ => ⟨w, G, h, g, r, o.bindE fun d h1 v w1 H1 l r1 x o1 => ?_⟩
  split at o1
  · rename_i e
    exact ⟨true, truD_rep r1 x e, iteT (out_ok o1 r1 x)⟩
  · rename_i e
    exact ⟨false, truD_rep r1 x e, iteF ⟨w1, G, h1, g.mono l, r1, o1⟩⟩
  · exact o1.elim
theorem e_not (ha : PE X a (TM X W ma)) : PE X (.UnaryOp .Not a pos) (TM X W (mNot ma)) := by
  refine (pe_notT ha).wk fun σ H Q ⟨w, G, h, g, r, o⟩ => ⟨w, G, h, g, r, o.bindE fun d h1 v w1 H1 l r1 x o1 => ?_⟩
  split at o1
  · rename_i b e
    exact ⟨b, truD_rep r1 x e, out_ok o1 r1 (.bl _)⟩
  · exact o1.elim
/-- least <= x <= most -/
noncomputable def mChain (f g : D → D → AH → Res D) (a b c : Me) : Me := fun G h => (a G h).bind fun x h1 => (b G h1).bind fun y h2 => (f x y h2).bind fun z h3 => match z with
  | .bl true => (c G h3).bind fun u h4 => g y u h4
  | .bl false => .ok (.bl false) h3
  | _ => .stuck
theorem OutE.bindR {K : PySem.W.Frag} {mg : Str → Option Value} {w : Wd} {σ : L2.St} {R Q : VK} {k : D → AH → Res D} {m : Res D} (o : OutE K mg W w σ Q (m.bind k))
    (hq : ∀ d h1 v w1 H1, Le w w1 → RepH K w1 H1 h1 → Rv K w1 v d → OutE K mg W w1 σ Q (k d h1) → R v H1) : OutE K mg W w σ R m := by
  cases m with
  | ok d h1 => exact fun v w1 H1 l r x => hq d h1 v w1 H1 l r x (OutE.mono l o)
  | exc c fs h1 => exact o
  | stuck => exact o
theorem e_chain {f f' : D → D → AH → Res D} {r r' : R2} {op op' : CmpOp} {mc : Me} (ho : OpR X (compareOp op) r) (ho' : OpR X (compareOp op') r') (hf : Fol2 X W f r) (hf' : Fol2 X W f' r')
    (ha : PE X a (TM X W ma)) (hb : PE X b (TM X W mb)) (hc : PE X c (TM X W mc)) (hm : lastMarks [op, op'] [b, c] = false := by with_unfolding_all rfl) : PE X (.Compare a [op, op'] [b, c] pos) (TM X W (mChain f f' ma mb mc)) := by
  refine (pe_chain ho ho' ha hb hc hm).wk fun σ H Q ⟨w, G, h, g, rh, o⟩ => ?_
  refine ⟨w, G, h, g, rh, o.bindE fun d h1 v w1 H1 l r1 x o1 => ⟨w1, G, h1, g.mono l, r1, o1.bindE fun d2 h2 v2 w2 H2 l2 r2 x2 o2 => ?_⟩⟩
  refine hf w2 h2 H2 σ _ v v2 d d2 r2 (Rv_mono l2 x) x2 (o2.bindR fun d3 h3 v3 w3 H3 l3 r3 x3 o3 => ?_)
  split at o3
  · cases x3
    exact ⟨true, rfl, iteT ⟨w3, G, h3, g.mono (l.trans (l2.trans l3)), r3, o3.bindE fun d4 h4 v4 w4 H4 l4 r4 x4 o4 => hf' w4 h4 H4 σ Q v2 v4 d2 d4 r4 (Rv_mono (l3.trans l4) x2) x4 o4⟩⟩
  · cases x3
    exact ⟨false, rfl, iteF (out_ok o3 r3 (.bl false))⟩
  · exact o3.elim
end
end AB
/-! AB: built-in calls, subscripts, slices, calls of defs. -/
namespace AB
open PySem PySem.Spec PyProof.Rows L2

/-! ### calls by values -/
section
variable {X : Cx} {W : WX} {pos p : Pos} {e : Expr} {es : List Expr} {as : MeL} {x : Str} {bid T : String} {ma mb : Me}
theorem cb {f : List D → AH → Res D} {r : List V → Hp → VK → Prop} (hf : FolN X W f r) {σ : L2.St} {H : Hp} {Q : VK} (t : TM X W (mN f as) σ H Q) : tCB r (TAr X W as) σ H Q := by
  obtain ⟨w, G, h, g, rh, o⟩ := t
  exact ⟨w, G, h, g, rh, o.bindA fun ds h1 vs w1 H1 l r1 x o1 => hf w1 h1 H1 σ Q vs ds r1 x o1⟩
noncomputable def lN (f : List D → AH → Res (List D)) (as : MeL) : MeL := fun G h => (as G h).bind fun xs h1 => f xs h1
theorem cbF {f : List D → AH → Res (List D)} {r : List V → Hp → VK → Prop} (hf : FolF X W f r) {σ : L2.St} {H : Hp} {Q : VK} (t : TF X W (lN f as) σ H Q) : tCB r (TAr X W as) σ H Q := by
  obtain ⟨w, G, h, g, rh, o⟩ := t
  exact ⟨w, G, h, g, rh, OutF.bindA (m := as) o fun ds h1 vs w1 H1 l r1 x o1 => hf w1 h1 H1 σ Q vs ds r1 x o1⟩
theorem e_blt {f : List D → AH → Res D} {r : List V → Hp → VK → Prop} (hc : CallR X (.builtin bid) r) (hf : FolN X W f r) (hm : X.mg x = none) (ha : PA X (e :: es) (TAr X W as)) (hg : Gl X x := by rfl) (hv : bootBuiltins x = some (.builtin bid) := by decide +kernel) (hn : x ≠ "__name__" := by decide) (hdb : (x == ("__debug__" : Str)) = false := by decide)
    (he : starEach (e :: es) X.env = (false, eval e X.env) :: starEach es X.env := by rfl) (hpl : (backTo pos (starEach es X.env)).any (·.1) = false := by rfl) : PE X (.Call (.Name x p) (e :: es) [] pos) (TM X W (mN f as)) :=
  (pe_callB hc hg hm hv ha hn hdb he hpl).wk fun _ _ _ t => cb hf t
theorem e_typ {f : List D → AH → Res D} {r : List V → Hp → VK → Prop} (hc : CallR X (.type T) r) (hf : FolN X W f r) (hm : X.mg x = none) (ha : PA X (e :: es) (TAr X W as)) (hg : Gl X x := by rfl) (hv : bootBuiltins x = some (.type T) := by decide +kernel) (hn : x ≠ "__name__" := by decide) (hdb : (x == ("__debug__" : Str)) = false := by decide)
    (he : starEach (e :: es) X.env = (false, eval e X.env) :: starEach es X.env := by rfl) (hpl : (backTo pos (starEach es X.env)).any (·.1) = false := by rfl) : PE X (.Call (.Name x p) (e :: es) [] pos) (TM X W (mN f as)) :=
  (pe_callTy hc hg hm hv ha hn hdb he hpl).wk fun _ _ _ t => cb hf t
theorem f_blt {f : List D → AH → Res (List D)} {r : List V → Hp → VK → Prop} (hc : CallR X (.builtin bid) r) (hf : FolF X W f r) (hm : X.mg x = none) (ha : PA X (e :: es) (TAr X W as)) (hg : Gl X x := by rfl) (hv : bootBuiltins x = some (.builtin bid) := by decide +kernel) (hn : x ≠ "__name__" := by decide) (hdb : (x == ("__debug__" : Str)) = false := by decide)
    (he : starEach (e :: es) X.env = (false, eval e X.env) :: starEach es X.env := by rfl) (hpl : (backTo pos (starEach es X.env)).any (·.1) = false := by rfl) : PE X (.Call (.Name x p) (e :: es) [] pos) (TF X W (lN f as)) :=
  (pe_callB hc hg hm hv ha hn hdb he hpl).wk fun _ _ _ t => cbF hf t
theorem f_typ {f : List D → AH → Res (List D)} {r : List V → Hp → VK → Prop} (hc : CallR X (.type T) r) (hf : FolF X W f r) (hm : X.mg x = none) (ha : PA X (e :: es) (TAr X W as)) (hg : Gl X x := by rfl) (hv : bootBuiltins x = some (.type T) := by decide +kernel) (hn : x ≠ "__name__" := by decide) (hdb : (x == ("__debug__" : Str)) = false := by decide)
    (he : starEach (e :: es) X.env = (false, eval e X.env) :: starEach es X.env := by rfl) (hpl : (backTo pos (starEach es X.env)).any (·.1) = false := by rfl) : PE X (.Call (.Name x p) (e :: es) [] pos) (TF X W (lN f as)) :=
  (pe_callTy hc hg hm hv ha hn hdb he hpl).wk fun _ _ _ t => cbF hf t
theorem ra_one {w : Wd} {vs : List V} {d : D} (r : Ra X.K w vs [d]) : ∃ v, vs = [v] ∧ Rv X.K w v d := by
  cases r with
  | cons a b => cases b; exact ⟨_, rfl, a⟩
theorem ra_two {w : Wd} {vs : List V} {d d2 : D} (r : Ra X.K w vs [d, d2]) : ∃ v v2, vs = [v, v2] ∧ Rv X.K w v d ∧ Rv X.K w v2 d2 := by
  cases r with
  | cons a b =>
    cases b with
    | cons c d => cases d; exact ⟨_, _, rfl, a, c⟩
/-! len -/
noncomputable def fLen (xs : List D) (h : AH) : Res D := match xs with
  | [.str x] => if x.length ≤ big then .ok (.int x.length) h else .stuck
  | [d] => match vS h d with
    | some ds => .ok (.int ds.length) h
    | none => .stuck
  | _ => .stuck
theorem fol_len : FolN X W fLen (fun xs H Q => ∃ x n, xs = [x] ∧ LenV X.K x H n ∧ Q (.int n) H) := by
  intro w h H σ Q vs ds rh ra o
  unfold fLen at o
  split at o
  · obtain ⟨v, rfl, rv⟩ := ra_one ra
    split at o
    · rename_i c
      cases rv
      exact ⟨_, _, rfl, ⟨big_le c, rfl⟩, out_ok o rh (.int _)⟩
    · exact o.elim
  · obtain ⟨v, rfl, rv⟩ := ra_one ra
    split at o
    · rename_i es e
      obtain ⟨a, xs, rfl, sq, ra2⟩ := vS_rep rh rv e
      refine ⟨_, xs.length, rfl, ?_, ?_⟩
      · rcases sq with sq | sq
        · exact .inl ⟨xs, sq, rfl⟩
        · exact .inr ⟨xs, sq, rfl⟩
      · rw [ra2.length]
        exact out_ok o rh (.int _)
    · exact o.elim
  · exact o.elim
theorem e_len (hm : X.mg "len" = none) (ha : PA X [e] (TAr X W as)) (hg : Gl X "len" := by rfl) (he : starEach [e] X.env = (false, eval e X.env) :: starEach [] X.env := by rfl) : PE X (.Call (.Name "len" p) [e] [] pos) (TM X W (mN fLen as)) :=
  e_blt call_len fol_len hm ha hg PySem.boot_len (by decide) (by decide) he rfl
/-! tuple(x), list(x), int(x), abs(x) -/
noncomputable def fTuple (xs : List D) (h : AH) : Res D := match xs with
  | [d] => match vS h d with
    | some ds => .ok (.tup ds) h
    | none => .stuck
  | _ => .stuck
theorem fol_tuple : FolN X W fTuple (fun xs H Q => ∃ p ys, xs = [.ref p] ∧ ((SqL X.K H p ys ∧ ∀ l, H l = none → Q (.ref l) (upd H l (.tup ys))) ∨ (SqT X.K H p ys ∧ Q (.ref p) H))) := by
  intro w h H σ Q vs ds rh ra o
  unfold fTuple at o
  split at o
  · rename_i d
    obtain ⟨v, rfl, rv⟩ := ra_one ra
    split at o
    · rename_i es e
      by_cases ht : ∃ ts, d = .tup ts
      · obtain ⟨ts, rfl⟩ := ht
        cases e
        cases rv with
        | tup a b => exact ⟨_, _, rfl, .inr ⟨rh.ex.t a, out_ok o rh (.tup a b)⟩⟩
      · have e : vL h d = some es := by
          cases d with
          | tup es => exact absurd ⟨es, rfl⟩ ht
          | _ => exact e
        obtain ⟨a, xs, rfl, sq, ra2⟩ := vL_rep rh rv e
        exact ⟨a, xs, rfl, .inl ⟨sq, fun l hl => out_add o rh hl (rv_tup rh hl ra2)⟩⟩
    · exact o.elim
  · exact o.elim
theorem e_tuple (hm : X.mg "tuple" = none) (ha : PA X [e] (TAr X W as)) (hg : Gl X "tuple" := by rfl) (he : starEach [e] X.env = (false, eval e X.env) :: starEach [] X.env := by rfl) : PE X (.Call (.Name "tuple" p) [e] [] pos) (TM X W (mN fTuple as)) :=
  e_typ call_tuple_of fol_tuple hm ha hg (by decide +kernel) (by decide) (by decide) he rfl
noncomputable def lList (xs : List D) (h : AH) : Res (List D) := match xs with
  | [d] => match vS h d with
    | some ds => .ok ds h
    | none => .stuck
  | _ => .stuck
theorem fol_list : FolF X W lList (fun xs H Q => ∃ p ys, xs = [.ref p] ∧ (SqL X.K H p ys ∨ SqT X.K H p ys) ∧ ∀ l, H l = none → Q (.ref l) (upd H l (.lst ys))) := by
  intro w h H σ Q vs ds rh ra o
  unfold lList at o
  split at o
  · obtain ⟨v, rfl, rv⟩ := ra_one ra
    split at o
    · rename_i es e
      obtain ⟨a, xs, rfl, sq, ra2⟩ := vS_rep rh rv e
      exact ⟨a, xs, rfl, sq, fun l hl => out_new o rh hl ra2⟩
    · exact o.elim
  · exact o.elim
theorem f_list (hm : X.mg "list" = none) (ha : PA X [e] (TAr X W as)) (hg : Gl X "list" := by rfl) (he : starEach [e] X.env = (false, eval e X.env) :: starEach [] X.env := by rfl) : PE X (.Call (.Name "list" p) [e] [] pos) (TF X W (lN lList as)) :=
  f_typ call_list_of fol_list hm ha hg (by decide +kernel) (by decide) (by decide) he rfl
noncomputable def fInt (xs : List D) (h : AH) : Res D := match xs with
  | [.int i] => .ok (.int i) h
  | [.bl b] => .ok (.int (if b then 1 else 0)) h
  | _ => .stuck
theorem fol_int1 : FolN X W fInt (fun xs H Q => (∃ i, xs = [.int i] ∧ Q (.int i) H) ∨ ∃ k, xs = [.bl k] ∧ Q (.int (if k then 1 else 0)) H) := by
  intro w h H σ Q vs ds rh ra o
  unfold fInt at o
  split at o
  · obtain ⟨v, rfl, rv⟩ := ra_one ra
    cases rv
    exact .inl ⟨_, rfl, out_ok o rh (.int _)⟩
  · obtain ⟨v, rfl, rv⟩ := ra_one ra
    cases rv
    exact .inr ⟨_, rfl, out_ok o rh (.int _)⟩
  · exact o.elim
theorem e_int1 (hm : X.mg "int" = none) (ha : PA X [e] (TAr X W as)) (hg : Gl X "int" := by rfl) (he : starEach [e] X.env = (false, eval e X.env) :: starEach [] X.env := by rfl) : PE X (.Call (.Name "int" p) [e] [] pos) (TM X W (mN fInt as)) :=
  e_typ call_int1 fol_int1 hm ha hg (by decide +kernel) (by decide) (by decide) he rfl
noncomputable def fAbs (xs : List D) (h : AH) : Res D := match xs with
  | [.int i] => .ok (.int (if i < 0 then -i else i)) h
  | _ => .stuck
theorem fol_abs : FolN X W fAbs (fun xs H Q => ∃ i, xs = [.int i] ∧ Q (.int (if i < 0 then -i else i)) H) := by
  intro w h H σ Q vs ds rh ra o
  unfold fAbs at o
  split at o
  · obtain ⟨v, rfl, rv⟩ := ra_one ra
    cases rv
    exact ⟨_, rfl, out_ok o rh (.int _)⟩
  · exact o.elim
theorem e_abs (hm : X.mg "abs" = none) (ha : PA X [e] (TAr X W as)) (hg : Gl X "abs" := by rfl) (he : starEach [e] X.env = (false, eval e X.env) :: starEach [] X.env := by rfl) : PE X (.Call (.Name "abs" p) [e] [] pos) (TM X W (mN fAbs as)) :=
  e_blt call_abs fol_abs hm ha hg (by decide +kernel) (by decide) (by decide) he rfl
/-! all, any, sum, max, min, sorted of ints -/
noncomputable def blsOf : List D → Option (List Bool)
  | [] => some []
  | .bl b :: ds => (blsOf ds).map (b :: ·)
  | _ :: _ => none
theorem blsOf_rep {w : Wd} : ∀ {ds : List D} {xs : List V} {bs : List Bool}, Ra X.K w xs ds → blsOf ds = some bs → xs = bs.map V.bl
  | [], _, _, r, e => by cases r; cases e; rfl
  | .bl b :: ds, _, bs, r, e => by
    cases r with
    | cons a t =>
      cases a
      unfold blsOf at e
      cases q : blsOf ds with
      | none => rw [q] at e; cases e
      | some cs =>
        rw [q] at e
        cases e
        rw [blsOf_rep t q] <;> rfl
  | .non :: _, _, _, _, e => by cases e
  | .int _ :: _, _, _, _, e => by cases e
  | .str _ :: _, _, _, _, e => by cases e
  | .tup _ :: _, _, _, _, e => by cases e
  | .lst _ :: _, _, _, _, e => by cases e
  | .rol _ :: _, _, _, _, e => by cases e
  | .loc _ :: _, _, _, _, e => by cases e
  | .con _ :: _, _, _, _, e => by cases e
noncomputable def lBls (xs : List D) (h : AH) : Option (List Bool) := match xs with
  | [d] => (vL h d).bind blsOf
  | _ => none
theorem lBls_rep {w : Wd} {h : AH} {H : Hp} {vs : List V} {ds : List D} {bs : List Bool} (rh : RepH X.K w H h) (ra : Ra X.K w vs ds) (e : lBls ds h = some bs) : ∃ a, vs = [.ref a] ∧ SqL X.K H a (bs.map V.bl) := by
  unfold lBls at e
  split at e
  · rename_i d
    obtain ⟨v, rfl, rv⟩ := ra_one ra
    cases q : vL h d with
    | none => rw [q] at e; cases e
    | some es =>
      rw [q] at e
      obtain ⟨a, xs, rfl, sq, ra2⟩ := vL_rep rh rv q
      have z := blsOf_rep ra2 e
      subst z
      exact ⟨a, rfl, sq⟩
  · cases e
noncomputable def fAll (xs : List D) (h : AH) : Res D := match lBls xs h with
  | some bs => .ok (.bl (bs.all id)) h
  | none => .stuck
noncomputable def fAny (xs : List D) (h : AH) : Res D := match lBls xs h with
  | some bs => .ok (.bl (bs.any id)) h
  | none => .stuck
theorem fol_all : FolN X W fAll (rAll X.K) := by
  intro w h H σ Q vs ds rh ra o
  unfold fAll at o
  split at o
  · rename_i bs e
    obtain ⟨a, rfl, sq⟩ := lBls_rep rh ra e
    exact ⟨a, bs, rfl, sq, out_ok o rh (.bl _)⟩
  · exact o.elim
theorem fol_any : FolN X W fAny (rAny X.K) := by
  intro w h H σ Q vs ds rh ra o
  unfold fAny at o
  split at o
  · rename_i bs e
    obtain ⟨a, rfl, sq⟩ := lBls_rep rh ra e
    exact ⟨a, bs, rfl, sq, out_ok o rh (.bl _)⟩
  · exact o.elim
theorem e_all (hm : X.mg "all" = none) (ha : PA X [e] (TAr X W as)) (hg : Gl X "all" := by rfl) (hc : X.calm = true := by rfl) (he : starEach [e] X.env = (false, eval e X.env) :: starEach [] X.env := by rfl) : PE X (.Call (.Name "all" p) [e] [] pos) (TM X W (mN fAll as)) :=
  e_blt (cr_all hc) fol_all hm ha hg (by decide +kernel) (by decide) (by decide) he rfl
theorem e_any (hm : X.mg "any" = none) (ha : PA X [e] (TAr X W as)) (hg : Gl X "any" := by rfl) (hc : X.calm = true := by rfl) (he : starEach [e] X.env = (false, eval e X.env) :: starEach [] X.env := by rfl) : PE X (.Call (.Name "any" p) [e] [] pos) (TM X W (mN fAny as)) :=
  e_blt (cr_any hc) fol_any hm ha hg (by decide +kernel) (by decide) (by decide) he rfl
/-! ### isinstance of a built-in class -/
inductive Ty where
  | non | bl | int | str | tup | lst | dct
noncomputable def Ty.name : Ty → String
  | .non => "NoneType"
  | .bl => "bool"
  | .int => "int"
  | .str => "str"
  | .tup => "tuple"
  | .lst => "list"
  | .dct => "dict"
noncomputable def Ty.sub : Ty → Ty → Bool
  | .non, .non => true
  | .bl, .bl => true
  | .bl, .int => true
  | .int, .int => true
  | .str, .str => true
  | .tup, .tup => true
  | .lst, .lst => true
  | .dct, .dct => true
  | _, _ => false
theorem kit_tag : ∀ a b : Ty, kitB a.name b.name = some (a.sub b) := by
  intro a b
  cases a <;> cases b <;> decide +kernel
noncomputable def tyD (h : AH) : D → Option Ty
  | .non => some .non
  | .bl _ => some .bl
  | .int _ => some .int
  | .str _ => some .str
  | .tup _ => some .tup
  | .lst _ => some .lst
  | .rol _ => some .lst
  | .loc n => match h[n]? with
    | some (.lst _) => some .lst
    | _ => none
  | .con _ => none
theorem tyT {K : PySem.W.Frag} {H : Hp} {a : Addr} {xs : List V} (s : SqT K H a xs) : TyX K H (.ref a) (.type "tuple") := by
  rcases s with (s | ⟨o, s⟩) | ⟨o, its, n, hk, hc, _⟩
  · exact .base (.tup s)
  · exact .fTuple s
  · exact .kTuple hk hc
theorem tyL {K : PySem.W.Frag} {H : Hp} {a : Addr} {xs : List V} (s : SqL K H a xs) : TyX K H (.ref a) (.type "list") := by
  rcases s with (s | ⟨o, s⟩) | ⟨o, its, n, hk, hc, _⟩
  · exact .base (.lst s)
  · exact .base (.frz s)
  · exact .kList hk hc
theorem tyD_rep {K : PySem.W.Frag} {w : Wd} {H : Hp} {h : AH} {v : V} {d : D} {t : Ty} (rh : RepH K w H h) (rv : Rv K w v d) (e : tyD h d = some t) : TyX K H v (.type t.name) := by
  cases d with
  | non => cases rv; cases e; exact .base .non
  | bl b => cases rv; cases e; exact .base (.bl b)
  | int b => cases rv; cases e; exact .base (.int b)
  | str b => cases rv; cases e; exact .base (.str b)
  | tup ds =>
    cases rv with
    | tup a b => cases e; exact tyT (rh.ex.t a)
  | lst ds =>
    cases rv with
    | lst a b => cases e; exact tyL (.inl (rh.ex.rd a))
  | rol ds =>
    cases rv with
    | rol a b => cases e; exact tyL (rh.ex.l a)
  | con a => cases e
  | loc n =>
    cases rv with
    | loc hn =>
      have e : (match h[n]? with
        | some (.lst _) => some Ty.lst
        | _ => none) = some t := e
      split at e
      · rename_i ds e'
        obtain ⟨_, xs, e2, ra⟩ := rh.cell _ _ e'
        cases e
        exact .base (.lst e2)
      · cases e
noncomputable def mIsi (T : Ty) (m : Me) : Me := fun G h => (m G h).bind fun d h1 => match tyD h1 d with
  | some t => .ok (.bl (t.sub T)) h1
  | none => .stuck
theorem e_isi (T : Ty) {t : Str} {pt : Pos} (hi : X.mg "isinstance" = none) (ht : X.mg t = none) (he : PE X e (TM X W ma)) (hgt : Gl X t := by rfl) (hbt : bootBuiltins t = some (.type T.name) := by decide +kernel) (hg : Gl X "isinstance" := by rfl)
    (hn : t ≠ "__name__" := by decide) (hd : (t == ("__debug__" : Str)) = false := by decide)
    (h1 : starEach [e, .Name t pt] X.env = (false, eval e X.env) :: starEach [.Name t pt] X.env := by rfl) (h2 : starEach [.Name t pt] X.env = (false, eval (.Name t pt) X.env) :: starEach [] X.env := by rfl) (hpl : (backTo pos (starEach [.Name t pt] X.env)).any (·.1) = false := by rfl) :
    PE X (.Call (.Name "isinstance" p) [e, .Name t pt] [] pos) (TM X W (mIsi T ma)) := by
  refine (pe_callB call_isi hg hi (by decide +kernel) (pa_cons he (pa_cons (pe_bltn (v := .ty T.name) hgt ht hbt rfl hn hd) pa_nil h2) h1) (by decide) (by decide) h1 hpl).wk fun σ H Q ⟨w, G, h, g, r, o⟩ => ⟨w, G, h, g, r, o.bindE fun d h1 v w1 H1 l r1 x o1 => ?_⟩
  split at o1
  · rename_i t e
    exact ⟨v, .ty T.name, .type t.name, .type T.name, t.sub T, rfl, .ty _, tyD_rep r1 x e, kit_ty (kit_tag t T), out_ok o1 r1 (.bl _)⟩
  · exact o1.elim

/-! ### subscripts, slices -/
theorem atI_rep {w : Wd} {xs : List V} {ds : List D} {i : Int} {d : D} (ra : Ra X.K w xs ds) (e : atI ds i = some d) : ∃ v, atI xs i = some v ∧ Rv X.K w v d := by
  unfold atI at e ⊢
  rw [ra.length]
  cases q : ixN ds.length i with
  | none => rw [q] at e; cases e
  | some j =>
    rw [q] at e
    obtain ⟨v, h1, h2⟩ := ra.get (i := j) (d := d) e
    exact ⟨v, h1, h2⟩
noncomputable def fIx (x i : D) (h : AH) : Res D := match i with
  | .int k => match vS h x with
    | some ds => match atI ds k with
      | some d => .ok d h
      | none => .stuck
    | none => .stuck
  | _ => .stuck
theorem fol_ix : Fol2 X W fIx (rIx X.K) := by
  intro w h H σ Q v1 v2 d1 d2 rh r1 r2 o
  unfold fIx at o
  split at o
  · rename_i k
    split at o
    · rename_i ds e
      split at o
      · rename_i d e2
        cases r2
        obtain ⟨a, xs, rfl, sq, ra⟩ := vS_rep rh r1 e
        obtain ⟨v, e3, rv⟩ := atI_rep ra e2
        rcases sq with sq | sq
        · exact .inl ⟨a, xs, k, v, rfl, rfl, sq, e3, out_ok o rh rv⟩
        · exact .inr (.inl ⟨a, xs, k, v, rfl, rfl, sq, e3, out_ok o rh rv⟩)
      · exact o.elim
    · exact o.elim
  · exact o.elim
variable {a b : Expr}
theorem e_ix (ha : PE X a (TM X W ma)) (hb : PE X b (TM X W mb)) (hs : PlainIx b := by exact fun _ _ => rfl) : PE X (.Subscript a b pos) (TM X W (mOp2 fIx ma mb)) :=
  (pe_ix ix_seq ha hb hs).wk fun _ _ _ t => op2 fol_ix t
noncomputable abbrev MeO := Env → AH → Res (Option Int)
noncomputable def oNone : MeO := fun _ h => .ok none h
noncomputable def oSome (m : Me) : MeO := fun G h => (m G h).bind fun d h1 => match d with
  | .int i => .ok (some i) h1
  | _ => .stuck
noncomputable def OutO (K : PySem.W.Frag) (mg : Str → Option Value) (W : WX) (w : Wd) (σ : L2.St) (Q : Option Int → Hp → Prop) : Res (Option Int) → Prop
  | .ok b h => ∀ w' H', Le w w' → RepH K w' H' h → Q b H'
  | .exc c fs h => OutX K mg W w σ c fs h
  | .stuck => False
noncomputable def tO (X : Cx) (W : WX) (m : MeO) : TO := fun σ H Q => ∃ w G h, RepG X.K w σ G ∧ RepH X.K w H h ∧ OutO X.K X.mg W w σ Q (m G h)
theorem _root_.L2.PO.wk {X : Cx} {e : Option Expr} {t t' : TO} (h : PO X e t) (k : ∀ σ H Q, t' σ H Q → t σ H Q) : PO X e t' := ⟨fun pins s σ H Q I q => h.run pins s σ H Q I (k σ H Q q)⟩
theorem o_none : PO X none (tO X W oNone) := po_none.wk fun σ H Q ⟨w, G, h, g, r, o⟩ => o w H (Le.refl _) r
theorem o_some (he : PE X e (TM X W ma)) : PO X (some e) (tO X W (oSome ma)) := by
  refine (po_some he).wk fun σ H Q ⟨w, G, h, g, r, o⟩ => ⟨w, G, h, g, r, ?_⟩
  have o : OutO X.K X.mg W w σ Q ((ma G h).bind _) := o
  cases e : ma G h with
  | ok d h1 =>
    rw [e] at o
    intro v w1 H1 l r1 x
    cases d with
    | int i =>
      cases x
      exact ⟨_, rfl, o w1 H1 l r1⟩
    | _ => exact o.elim
  | exc c fs h1 =>
    rw [e] at o
    exact o
  | stuck =>
    rw [e] at o
    exact o
theorem OutE.bindO {K : PySem.W.Frag} {mg : Str → Option Value} {w : Wd} {σ : L2.St} {G : Env} {h : AH} {m : MeO} {R : Option Int → Hp → Prop} {Q : VK} {k : Option Int → AH → Res D} (o : OutE K mg W w σ Q ((m G h).bind k))
    (hq : ∀ b h1 w1 H1, Le w w1 → RepH K w1 H1 h1 → OutE K mg W w1 σ Q (k b h1) → R b H1) : OutO K mg W w σ R (m G h) := by
  cases e : m G h with
  | ok d h1 =>
    rw [e] at o
    exact fun w1 H1 l r => hq d h1 w1 H1 l r (OutE.mono l o)
  | exc c fs h1 =>
    rw [e] at o
    exact o
  | stuck =>
    rw [e] at o
    exact o
theorem OutF.bindO {K : PySem.W.Frag} {mg : Str → Option Value} {w : Wd} {σ : L2.St} {G : Env} {h : AH} {m : MeO} {R : Option Int → Hp → Prop} {Q : VK} {k : Option Int → AH → Res (List D)} (o : OutF K mg W w σ Q ((m G h).bind k))
    (hq : ∀ b h1 w1 H1, Le w w1 → RepH K w1 H1 h1 → OutF K mg W w1 σ Q (k b h1) → R b H1) : OutO K mg W w σ R (m G h) := by
  cases e : m G h with
  | ok d h1 =>
    rw [e] at o
    exact fun w1 H1 l r => hq d h1 w1 H1 l r (OutF.mono l o)
  | exc c fs h1 =>
    rw [e] at o
    exact o
  | stuck =>
    rw [e] at o
    exact o
noncomputable def cutD (ds : List D) (lo hi : Option Int) : List D := (ds.drop (HT.sIx ds.length 0 lo)).take (HT.sIx ds.length ds.length hi - HT.sIx ds.length 0 lo)
theorem cut_rep {w : Wd} {xs : List V} {ds : List D} (ra : Ra X.K w xs ds) (lo hi : Option Int) : Ra X.K w (cutV xs lo hi) (cutD ds lo hi) := by
  unfold cutV cutD
  rw [ra.length]
  exact (ra.drop _).take _
/-- a[lo:hi] of a tuple, of a list that is not changed -/
noncomputable def mSl (m : Me) (lo hi : MeO) : Me := fun G h => (m G h).bind fun x h1 => (lo G h1).bind fun l h2 => (hi G h2).bind fun u h3 => match x with
  | .tup ds => .ok (.tup (cutD ds l u)) h3
  | d => match vL h3 d with
    | some ds => .ok (.lst (cutD ds l u)) h3
    | none => .stuck
theorem cut_whole {ds : List D} {lo hi : Option Int} (h : HT.sIx ds.length 0 lo = 0 ∧ HT.sIx ds.length ds.length hi = ds.length) : cutD ds lo hi = ds := by
  unfold cutD
  rw [h.1, h.2]
  simp
theorem e_sl {lo hi : Option Expr} {ml mh : MeO} {p2 : Pos} (he : PE X e (TM X W ma)) (hl : PO X lo (tO X W ml)) (hu : PO X hi (tO X W mh)) : PE X (.Subscript e (.Slice lo hi none p2) pos) (TM X W (mSl ma ml mh)) := by
  refine (pe_slice (SlR.or sl_list sl_tupA) he hl hu).wk fun σ H Q ⟨w, G, h, g, r, o⟩ => ⟨w, G, h, g, r, o.bindE fun d h1 v w1 H1 l1 r1 x o1 => ⟨w1, G, h1, g.mono l1, r1, o1.bindO fun l h2 w2 H2 l2 r2 o2 => ⟨w2, G, h2, g.mono (l1.trans l2), r2, o2.bindO fun u h3 w3 H3 l3 r3 o3 => ?_⟩⟩⟩
  have x3 := Rv_mono (l2.trans l3) x
  split at o3
  · cases x3 with
    | @tup a xs ds h1 h2 =>
      refine .inr ⟨a, xs, rfl, r3.ex.t h1, fun hw => ?_, fun _ p hp => out_add o3 r3 hp (rv_tup r3 hp (cut_rep h2 l u))⟩
      rw [h2.length] at hw
      rw [cut_whole hw] at o3
      exact out_ok o3 r3 (.tup h1 h2)
  · split at o3
    · rename_i ds e
      obtain ⟨a, xs, rfl, sq, ra⟩ := vL_rep r3 x3 e
      exact .inl ⟨a, xs, rfl, sq, fun p hp => out_add o3 r3 hp (rv_lst r3 hp (cut_rep ra l u))⟩
    · exact o3.elim
end
end AB
/-! AB: statements, loops, comprehensions, defs. -/
namespace AB
open PySem PySem.Spec PyProof.Rows L2

inductive SR where
  | next (G : Env) (h : AH)
  | ret (d : D) (h : AH)
  | brk (G : Env) (h : AH)
  | cont (G : Env) (h : AH)
  | exc (c : Str) (fs : List (Str × D)) (G : Env) (h : AH)
  | stuck
noncomputable abbrev Ms := Env → AH → SR
noncomputable def Res.toS {α : Type} (r : Res α) (G : Env) (k : α → AH → SR) : SR :=
  match r with
  | .ok a h => k a h
  | .exc c fs h => .exc c fs G h
  | .stuck => .stuck
@[simp] theorem Res.toS_ok {α : Type} (a : α) (h : AH) (G : Env) (k : α → AH → SR) : (Res.ok a h).toS G k = k a h := rfl
@[simp] theorem Res.toS_exc {α : Type} (c : Str) (fs : List (Str × D)) (h : AH) (G : Env) (k : α → AH → SR) : (Res.exc c fs h : Res α).toS G k = .exc c fs G h := rfl
@[simp] theorem Res.toS_stuck {α : Type} (G : Env) (k : α → AH → SR) : (Res.stuck : Res α).toS G k = .stuck := rfl
noncomputable def SR.andThen (r : SR) (k : Env → AH → SR) : SR :=
  match r with
  | .next G h => k G h
  | .ret d h => .ret d h
  | .brk G h => .brk G h
  | .cont G h => .cont G h
  | .exc c fs G h => .exc c fs G h
  | .stuck => .stuck
@[simp] theorem SR.andThen_next (G : Env) (h : AH) (k : Env → AH → SR) : (SR.next G h).andThen k = k G h := rfl
@[simp] theorem SR.andThen_ret (d : D) (h : AH) (k : Env → AH → SR) : (SR.ret d h).andThen k = .ret d h := rfl
@[simp] theorem SR.andThen_brk (G : Env) (h : AH) (k : Env → AH → SR) : (SR.brk G h).andThen k = .brk G h := rfl
@[simp] theorem SR.andThen_cont (G : Env) (h : AH) (k : Env → AH → SR) : (SR.cont G h).andThen k = .cont G h := rfl
@[simp] theorem SR.andThen_exc (c : Str) (fs : List (Str × D)) (G : Env) (h : AH) (k : Env → AH → SR) : (SR.exc c fs G h).andThen k = .exc c fs G h := rfl
@[simp] theorem SR.andThen_stuck (k : Env → AH → SR) : SR.stuck.andThen k = .stuck := rfl

section
variable (K : PySem.W.Frag) (mg : Str → Option Value) (W : WX)
noncomputable def OutS (D : Ends) (w : Wd) : SR → Prop
  | .next G h => ∀ σ' w' H', Le w w' → RepG K w' σ' G → RepH K w' H' h → D.nx σ' H'
  | .ret d h => ∀ v w' H', Le w w' → RepH K w' H' h → Rv K w' v d → D.rt v H'
  | .brk G h => ∀ σ' w' H', Le w w' → RepG K w' σ' G → RepH K w' H' h → D.bk σ' H'
  | .cont G h => ∀ σ' w' H', Le w w' → RepG K w' σ' G → RepH K w' H' h → D.ct σ' H'
  | .exc c fs G h => ∀ cls dd σ' w' H', mg c = some cls → Le w w' → RepG K w' σ' G → RepH K w' H' h → RepX K w' H' dd fs → W cls dd σ' H'
  | .stuck => False
noncomputable def tS (m : Ms) : TS := fun D σ H => ∃ w G h, RepG K w σ G ∧ RepH K w H h ∧ OutS K mg W D w (m G h)
end
section
variable {K : PySem.W.Frag} {mg : Str → Option Value} {W : WX} {w w' : Wd} {σ : L2.St} {H : Hp} {G : Env} {h : AH}
theorem OutS.mono {D : Ends} {r : SR} (l : Le w w') (o : OutS K mg W D w r) : OutS K mg W D w' r := by
  cases r with
  | next G h => exact fun σ' w2 H' l2 g r => o σ' w2 H' (l.trans l2) g r
  | ret d h => exact fun v w2 H' l2 r x => o v w2 H' (l.trans l2) r x
  | brk G h => exact fun σ' w2 H' l2 g r => o σ' w2 H' (l.trans l2) g r
  | cont G h => exact fun σ' w2 H' l2 g r => o σ' w2 H' (l.trans l2) g r
  | exc c fs G h => exact fun cls dd σ' w2 H' e l2 g r x => o cls dd σ' w2 H' e (l.trans l2) g r x
  | stuck => exact o
theorem OutS.bindE {m : Me} {R : VK} {D : Ends} {k : AB.D → AH → SR} (g : RepG K w σ G) (o : OutS K mg W D w ((m G h).toS G k))
    (hq : ∀ d h1 v w1 H1, Le w w1 → RepH K w1 H1 h1 → Rv K w1 v d → OutS K mg W D w1 (k d h1) → R v H1) : OutE K mg W w σ R (m G h) := by
  cases e : m G h with
  | ok d h1 =>
    rw [e] at o
    exact fun v w1 H1 l r x => hq d h1 v w1 H1 l r x (OutS.mono l o)
  | exc c fs h1 =>
    rw [e] at o
    exact fun cls dd w1 H1 e l r x => o cls dd σ w1 H1 e l (g.mono l) r x
  | stuck =>
    rw [e] at o
    exact o
theorem OutS.bindT {m : MeT} {R : Bool → Hp → Prop} {D : Ends} {k : Bool → AH → SR} (g : RepG K w σ G) (o : OutS K mg W D w ((m G h).toS G k))
    (hq : ∀ b h1 w1 H1, Le w w1 → RepH K w1 H1 h1 → OutS K mg W D w1 (k b h1) → R b H1) : OutT K mg W w σ R (m G h) := by
  cases e : m G h with
  | ok d h1 =>
    rw [e] at o
    exact fun w1 H1 l r => hq d h1 w1 H1 l r (OutS.mono l o)
  | exc c fs h1 =>
    rw [e] at o
    exact fun cls dd w1 H1 e l r x => o cls dd σ w1 H1 e l (g.mono l) r x
  | stuck =>
    rw [e] at o
    exact o
end
noncomputable abbrev TSS (X : Cx) (W : WX) (m : Ms) : TS := tS X.K X.mg W m
theorem _root_.L2.PS.wk {X : Cx} {e : Stmt} {t t' : TS} (h : PS X e t) (k : ∀ D σ H, t' D σ H → t D σ H) : PS X e t' := ⟨fun pins s σ H D I q => h.run pins s σ H D I (k D σ H q)⟩
theorem _root_.L2.PSs.wk {X : Cx} {e : List Stmt} {t t' : TS} (h : PSs X e t) (k : ∀ D σ H, t' D σ H → t D σ H) : PSs X e t' := ⟨fun pins s σ H D I q => h.run pins s σ H D I (k D σ H q)⟩

/-! ### the combinators -/
noncomputable def sNil : Ms := fun G h => .next G h
noncomputable def sSeq (a b : Ms) : Ms := fun G h => (a G h).andThen b
noncomputable def sSet (i : Nat) (m : Me) : Ms := fun G h => (m G h).toS G fun d h1 => .next (G.set i (some d)) h1
noncomputable def sRet (m : Me) : Ms := fun G h => (m G h).toS G fun d h1 => .ret d h1
noncomputable def sExpr (m : Me) : Ms := fun G h => (m G h).toS G fun _ h1 => .next G h1
noncomputable def sIf (c : MeT) (a b : Ms) : Ms := fun G h => (c G h).toS G fun t h1 => if t = true then a G h1 else b G h1
noncomputable def sNever : Ms := fun _ _ => .stuck
section
variable {X : Cx} {W : WX} {pos : Pos} {st : Stmt} {rest : List Stmt} {e c : Expr} {a b : Ms} {m : Me} {tc : MeT} {sa sb : List Stmt}
theorem s_nil : PSs X [] (TSS X W sNil) := pss_nil.wk fun D σ H ⟨w, G, h, g, r, o⟩ => o σ w H (Le.refl _) g r
theorem s_seq (h1 : PS X st (TSS X W a)) (h2 : PSs X rest (TSS X W b)) : PSs X (st :: rest) (TSS X W (sSeq a b)) := by
  refine (pss_cons h1 h2).wk fun D σ H ⟨w, G, h, g, r, o⟩ => ⟨w, G, h, g, r, ?_⟩
  have o : OutS X.K X.mg W D w ((a G h).andThen b) := o
  cases e : a G h with
  | next G1 h1 =>
    rw [e] at o
    exact fun σ' w1 H1 l g1 r1 => ⟨w1, G1, h1, g1, r1, OutS.mono l o⟩
  | ret d h1 => rw [e] at o; exact o
  | brk G1 h1 => rw [e] at o; exact o
  | cont G1 h1 => rw [e] at o; exact o
  | exc c fs G1 h1 => rw [e] at o; exact o
  | stuck => rw [e] at o; exact o
theorem s_ret (he : PE X e (TM X W m)) : PS X (.Return (some e) pos) (TSS X W (sRet m)) :=
  (ps_ret he).wk fun D σ H ⟨w, G, h, g, r, o⟩ => ⟨w, G, h, g, r, OutS.bindE (m := m) g o fun d h1 v w1 H1 l r1 x o1 => o1 v w1 H1 (Le.refl _) r1 x⟩
theorem s_set (i : Nat) {x : Str} {pos' : Pos} (he : PE X e (TM X W m)) (hN : X.N.Nodup) (hi : X.N[i]? = some x := by rfl) (hx : Loc X.env.scope x := by first | exact Or.inl rfl | exact Or.inr rfl)
    (hs : swapsWithSole [.Name x pos'] e pos.line X.env = pure false := by rfl) (hw : swappedStores [.Name x pos'] e X.env = pure none := by rfl) (hf : X.fn x = true ∨ X.env.scope.names.lookup x = some .local := by first | exact .inl rfl | exact .inr rfl) : PS X (.Assign [.Name x pos'] e pos) (TSS X W (sSet i m)) :=
  (ps_asg he (pg_name hN hi hx hf) hs hw).wk fun D σ H ⟨w, G, h, g, r, o⟩ => ⟨w, G, h, g, r, OutS.bindE (m := m) g o fun d h1 v w1 H1 l r1 x o1 => o1 _ w1 H1 (Le.refl _) ((g.mono l).set i x) r1⟩
theorem s_expr (he : PE X e (TM X W m)) (hs : swapsWith e none pos.line X.env = pure false := by rfl) : PS X (.Expr e pos) (TSS X W (sExpr m)) :=
  (ps_expr he hs).wk fun D σ H ⟨w, G, h, g, r, o⟩ => ⟨w, G, h, g, r, OutS.bindE (m := m) g o fun d h1 v w1 H1 l r1 x o1 => o1 σ w1 H1 (Le.refl _) (g.mono l) r1⟩
theorem s_if (hc : PT X c (TTT X W tc)) (ha : PSs X sa (TSS X W a)) (hb : PSs X sb (TSS X W b)) : PS X (.If c sa sb pos) (TSS X W (sIf tc a b)) := by
  refine (ps_if hc ha hb).wk fun D σ H ⟨w, G, h, g, r, o⟩ => ⟨w, G, h, g, r, OutS.bindT (m := tc) g o fun t h1 w1 H1 l r1 o1 => ?_⟩
  cases t with
  | true => exact ⟨w1, G, h1, g.mono l, r1, o1⟩
  | false => exact ⟨w1, G, h1, g.mono l, r1, o1⟩
theorem s_never : PS X st (TSS X W sNever) := ps_never.wk fun D σ H ⟨w, G, h, g, r, o⟩ => o.elim
end

/-! ### targets -/
inductive Pat where
  | nm (i : Nat)
  | tp (ps : List Pat)
mutual
noncomputable def asg : Pat → D → Env → Option Env
  | .nm i, d, G => some (G.set i (some d))
  | .tp ps, d, G => match d with
    | .tup ds => asgs ps ds G
    | _ => none
noncomputable def asgs : List Pat → List D → Env → Option Env
  | [], [], G => some G
  | p :: ps, d :: ds, G => match asg p d G with
    | some G1 => asgs ps ds G1
    | none => none
  | _, _, _ => none
end
mutual
noncomputable def gP (K : PySem.W.Frag) : Pat → TG
  | .nm i => gName i
  | .tp ps => gTup K ps.length (gPs K ps)
noncomputable def gPs (K : PySem.W.Frag) : List Pat → TGs
  | [] => gNil
  | p :: ps => gCons (gP K p) (gPs K ps)
end
mutual
noncomputable def Pat.slots : Pat → List Nat
  | .nm i => [i]
  | .tp ps => slotsL ps
noncomputable def slotsL : List Pat → List Nat
  | [] => []
  | p :: ps => p.slots ++ slotsL ps
end
theorem wipe_set {σ : L2.St} {i : Nat} {v : Option V} : ∀ {vs : List Nat}, i ∈ vs → wipe (σ.set i v) vs = wipe σ vs
  | j :: vs, h => by
    unfold wipe
    by_cases e : i = j
    · subst e
      by_cases q : i ∈ vs
      · rw [wipe_set q]
      · have key : ∀ (us : List Nat), (wipe (σ.set i v) us).set i none = (wipe σ us).set i none := by
          intro us
          induction us with
          | nil =>
            show (σ.set i v).set i none = σ.set i none
            rw [List.set_set]
          | cons u us ih =>
            unfold wipe
            by_cases eu : u = i
            · subst eu
              rw [List.set_set, List.set_set]
              exact ih
            · rw [List.set_comm _ _ eu, List.set_comm _ _ eu, ih]
        exact key vs
    · have q : i ∈ vs := by
        rcases List.mem_cons.mp h with h | h
        · exact absurd h e
        · exact h
      rw [wipe_set q]
theorem wipe_wipe {σ : L2.St} {vs : List Nat} : ∀ {us : List Nat}, (∀ i ∈ us, i ∈ vs) → wipe (wipe σ us) vs = wipe σ vs
  | [], _ => rfl
  | u :: us, h => by
    have e : wipe σ (u :: us) = (wipe σ us).set u none := rfl
    rw [e, wipe_set (h u List.mem_cons_self), wipe_wipe fun i hi => h i (List.mem_cons_of_mem _ hi)]
section
variable {K : PySem.W.Frag} {w : Wd} {H : Hp} {h : AH}
mutual
theorem asg_rep (r : RepH K w H h) : ∀ (p : Pat) (d : D) (v : V) (σ : L2.St) (G G' : Env) (Q : L2.St → Hp → Prop), Rv K w v d → RepG K w σ G → asg p d G = some G' →
    (∀ σ', RepG K w σ' G' → (∀ vs : List Nat, (∀ i ∈ p.slots, i ∈ vs) → wipe σ' vs = wipe σ vs) → Q σ' H) → gP K p v σ H Q
  | .nm i, d, v, σ, G, G', Q, rv, g, e, q => by
    unfold asg at e
    cases e
    unfold gP
    exact q _ (g.set i rv) fun vs hv => wipe_set (hv i (by unfold Pat.slots; simp))
  | .tp ps, d, v, σ, G, G', Q, rv, g, e, q => by
    unfold asg at e
    split at e
    · rename_i ds
      cases rv with
      | @tup a xs _ h1 h2 =>
        unfold gP
        have hl : ds.length = ps.length := asgs_len ps ds G G' e
        refine ⟨a, xs, rfl, r.ex.t h1, by rw [h2.length]; exact hl, ?_⟩
        exact asgs_rep r ps ds xs σ G G' Q h2 g e fun σ' g' hw => q σ' g' fun vs hv => hw vs (by unfold Pat.slots at hv; exact hv)
    · cases e
theorem asgs_rep (r : RepH K w H h) : ∀ (ps : List Pat) (ds : List D) (vs : List V) (σ : L2.St) (G G' : Env) (Q : L2.St → Hp → Prop), Ra K w vs ds → RepG K w σ G → asgs ps ds G = some G' →
    (∀ σ', RepG K w σ' G' → (∀ us : List Nat, (∀ i ∈ slotsL ps, i ∈ us) → wipe σ' us = wipe σ us) → Q σ' H) → gPs K ps vs σ H Q
  | [], [], _, σ, G, G', Q, ra, g, e, q => by
    cases ra
    unfold asgs at e
    cases e
    unfold gPs
    exact ⟨rfl, q σ g fun us _ => rfl⟩
  | p :: ps, d :: ds, _, σ, G, G', Q, ra, g, e, q => by
    cases ra with
    | @cons v vs _ _ a b =>
      unfold asgs at e
      split at e
      · rename_i G1 e1
        unfold gPs
        refine ⟨v, vs, rfl, asg_rep r p d v σ G G1 _ a g e1 fun σ1 g1 w1 => ?_⟩
        refine asgs_rep r ps ds vs σ1 G1 G' Q b g1 e fun σ2 g2 w2 => q σ2 g2 fun us hu => ?_
        unfold slotsL at hu
        rw [w2 us fun i hi => hu i (List.mem_append_right _ hi), w1 us fun i hi => hu i (List.mem_append_left _ hi)]
      · cases e
  | [], _ :: _, _, _, _, _, _, _, _, e, _ => by cases e
  | _ :: _, [], _, _, _, _, _, _, _, e, _ => by cases e
theorem asgs_len : ∀ (ps : List Pat) (ds : List D) (G G' : Env), asgs ps ds G = some G' → ds.length = ps.length
  | [], [], _, _, _ => rfl
  | p :: ps, d :: ds, G, G', e => by
    unfold asgs at e
    split at e
    · rename_i G1 _
      rw [List.length_cons, List.length_cons, asgs_len ps ds G1 G' e]
    · cases e
  | [], _ :: _, _, _, e => by cases e
  | _ :: _, [], _, _, e => by cases e
end
end
noncomputable def sAsg (p : Pat) (m : Me) : Ms := fun G h => (m G h).toS G fun d h1 => match asg p d G with
  | some G1 => .next G1 h1
  | none => .stuck
/-! ### what is walked -/
/-- the source still holds these items -/
noncomputable def Still (src : Option Nat) (all : List D) (h : AH) : Prop := match src with
  | none => True
  | some n => h[n]? = some (.lst all)
noncomputable abbrev Im := Env → AH → Res (List D × Option Nat)
structure Walks (K : PySem.W.Frag) (J : It) (w : Wd) (all : List D) (src : Option Nat) : Prop where
  goes : ∀ i w' H' h', i < all.length → LeX w w' → RepH K w' H' h' → Still src all h' → J.go i H'
  stops : ∀ w' H' h', LeX w w' → RepH K w' H' h' → Still src all h' → J.stop all.length H'
  yields : ∀ i x w' H' H2 h' d, all[i]? = some d → LeX w w' → RepH K w' H' h' → Still src all h' → J.yld i H' x H2 → ∃ w2, Le w' w2 ∧ RepH K w2 H2 h' ∧ Rv K w2 x d
noncomputable def OutI (K : PySem.W.Frag) (mg : Str → Option Value) (W : WX) (w : Wd) (σ : L2.St) (R : It → Hp → Prop) : Res (List D × Option Nat) → Prop
  | .ok (all, src) h => ∀ J w' H', Le w w' → RepH K w' H' h → Walks K J w' all src → R J H'
  | .exc c fs h => OutX K mg W w σ c fs h
  | .stuck => False
noncomputable def tI (X : Cx) (W : WX) (m : Im) : TI := fun σ H R => ∃ w G h, RepG X.K w σ G ∧ RepH X.K w H h ∧ OutI X.K X.mg W w σ R (m G h)
theorem _root_.L2.PI.wk {X : Cx} {tg e : Expr} {t t' : TI} (h : PI X tg e t) (k : ∀ σ H R, t' σ H R → t σ H R) : PI X tg e t' := ⟨fun pins s σ H R I q => h.run pins s σ H R I (k σ H R q)⟩
noncomputable def iSeq (m : Me) : Im := fun G h => (m G h).bind fun d h1 => match d with
  | .tup ds => .ok (ds, none) h1
  | .lst ds => .ok (ds, none) h1
  | .rol ds => .ok (ds, none) h1
  | .loc n => match h1[n]? with
    | some (.lst ds) => .ok (ds, some n) h1
    | _ => .stuck
  | _ => .stuck
section
variable {X : Cx} {W : WX} {tg e : Expr} {m : Me} {K : PySem.W.Frag}
theorem OutI.bindE {mg : Str → Option Value} {w : Wd} {σ : L2.St} {G : Env} {h : AH} {R : VK} {Q : It → Hp → Prop} {k : D → AH → Res (List D × Option Nat)} (o : OutI K mg W w σ Q ((m G h).bind k))
    (hq : ∀ d h1 v w1 H1, m G h = .ok d h1 → Le w w1 → RepH K w1 H1 h1 → Rv K w1 v d → OutI K mg W w1 σ Q (k d h1) → R v H1) : OutE K mg W w σ R (m G h) := by
  cases e : m G h with
  | ok d h1 =>
    rw [e] at o
    refine fun v w1 H1 l r x => hq d h1 v w1 H1 e l r x ?_
    have o : OutI K mg W w σ Q (k d h1) := o
    cases z : k d h1 with
    | ok a h2 =>
      rw [z] at o
      exact fun J w2 H2 l2 r2 x2 => o J w2 H2 (l.trans l2) r2 x2
    | exc c fs h2 => rw [z] at o; exact OutX.mono l o
    | stuck => rw [z] at o; exact o
  | exc c fs h1 =>
    rw [e] at o
    exact o
  | stuck =>
    rw [e] at o
    exact o
theorem Walks.tup {a : Addr} {xs : List V} {w : Wd} {ds : List D} (h1 : SqT K w.S a xs) (h2 : Ra K w xs ds) : Walks K (Itt K a) w ds none := by
  refine ⟨fun i w' H' h' hi l r _ => ?_, fun w' H' h' l r _ => ?_, fun i x w' H' H2 h' d hd l r _ y => ?_⟩
  · obtain ⟨v, hv, _⟩ := h2.get (i := i) (d := ds[i]) (List.getElem?_eq_getElem hi)
    exact ⟨xs, v, r.ex.t (l.ex.t h1), hv⟩
  · exact ⟨xs, r.ex.t (l.ex.t h1), by rw [h2.length]; exact Nat.le_refl _⟩
  · obtain ⟨rfl, hy⟩ := y
    obtain ⟨v, hv, rv⟩ := h2.get hd
    have := hy xs (r.ex.t (l.ex.t h1))
    rw [hv] at this
    cases this
    exact ⟨w', Le.refl _, r, Rv_monoX l rv⟩
theorem Walks.lst {a : Addr} {xs : List V} {w : Wd} {ds : List D} (h1 : SqL K w.S a xs) (h2 : Ra K w xs ds) : Walks K (Itl K a) w ds none := by
  refine ⟨fun i w' H' h' hi l r _ => ?_, fun w' H' h' l r _ => ?_, fun i x w' H' H2 h' d hd l r _ y => ?_⟩
  · obtain ⟨v, hv, _⟩ := h2.get (i := i) (d := ds[i]) (List.getElem?_eq_getElem hi)
    exact ⟨xs, v, r.ex.l (l.ex.l h1), hv⟩
  · exact ⟨xs, r.ex.l (l.ex.l h1), by rw [h2.length]; exact Nat.le_refl _⟩
  · obtain ⟨rfl, hy⟩ := y
    obtain ⟨v, hv, rv⟩ := h2.get hd
    have := hy xs (r.ex.l (l.ex.l h1))
    rw [hv] at this
    cases this
    exact ⟨w', Le.refl _, r, Rv_monoX l rv⟩
theorem Walks.loc {w : Wd} {ds : List D} {n : Nat} (hn : n < w.N) : Walks K (Itl K (w.mu n)) w ds (some n) := by
  have key : ∀ {w' : Wd} {H' : Hp} {h' : AH}, LeX w w' → RepH K w' H' h' → Still (some n) ds h' → ∃ xs, SqL K H' (w.mu n) xs ∧ Ra K w' xs ds := by
    intro w' H' h' l r s
    obtain ⟨_, xs, e, ra⟩ := r.cell n _ s
    rw [l.mu n hn] at e
    exact ⟨xs, .inl (.inl e), ra⟩
  refine ⟨fun i w' H' h' hi l r s => ?_, fun w' H' h' l r s => ?_, fun i x w' H' H2 h' d hd l r s y => ?_⟩
  · obtain ⟨xs, q, h2⟩ := key l r s
    obtain ⟨v, hv, _⟩ := h2.get (i := i) (d := ds[i]) (List.getElem?_eq_getElem hi)
    exact ⟨xs, v, q, hv⟩
  · obtain ⟨xs, q, h2⟩ := key l r s
    exact ⟨xs, q, by rw [h2.length]; exact Nat.le_refl _⟩
  · obtain ⟨rfl, hy⟩ := y
    obtain ⟨xs, q, h2⟩ := key l r s
    obtain ⟨v, hv, rv⟩ := h2.get hd
    have := hy xs q
    rw [hv] at this
    cases this
    exact ⟨w', Le.refl _, r, rv⟩
theorem i_seq (he : PE X e (TM X W m)) : PI X tg e (tI X W (iSeq m)) := by
  refine ⟨fun pins s σ H R I ⟨w, G, h, g, r, o⟩ => ?_⟩
  by_cases ht : ∃ ds h1, m G h = .ok (.tup ds) h1
  · obtain ⟨ds, h1, e1⟩ := ht
    refine (pi_tup he).run pins s σ H R I ⟨w, G, h, g, r, OutI.bindE (m := m) o fun d h2 v w1 H1 em l r1 x o1 => ?_⟩
    rw [e1] at em
    cases em
    cases x with
    | @tup a xs _ q1 q2 => exact ⟨a, rfl, ⟨xs, r1.ex.t q1⟩, o1 _ w1 H1 (Le.refl _) r1 (Walks.tup q1 q2)⟩
  · refine (pi_list he).run pins s σ H R I ⟨w, G, h, g, r, OutI.bindE (m := m) o fun d h2 v w1 H1 em l r1 x o1 => ?_⟩
    cases x with
    | tup q1 q2 => exact absurd ⟨_, _, em⟩ ht
    | @lst a xs ds q1 q2 => exact ⟨a, rfl, ⟨xs, .inl (r1.ex.rd q1)⟩, o1 _ w1 H1 (Le.refl _) r1 (Walks.lst (.inl q1) q2)⟩
    | @rol a xs ds q1 q2 => exact ⟨a, rfl, ⟨xs, r1.ex.l q1⟩, o1 _ w1 H1 (Le.refl _) r1 (Walks.lst q1 q2)⟩
    | @loc n hn =>
      have o1 : OutI X.K X.mg W w1 σ R (match h2[n]? with
        | some (.lst ds) => .ok (ds, some n) h2
        | _ => .stuck) := o1
      split at o1
      · rename_i ds e'
        obtain ⟨_, xs, e2, ra⟩ := r1.cell _ _ e'
        exact ⟨_, rfl, ⟨xs, .inl (.inl e2)⟩, o1 _ w1 H1 (Le.refl _) r1 (Walks.loc hn)⟩
      · exact o1.elim
    | _ => exact o1.elim
noncomputable def rangeD (lo : Int) (n : Nat) : List D := (List.range n).map fun i : Nat => D.int (lo + (i : Int))
theorem rangeD_length (lo : Int) (n : Nat) : (rangeD lo n).length = n := by simp [rangeD]
theorem rangeD_get {lo : Int} {n i : Nat} {d : D} (h : (rangeD lo n)[i]? = some d) : d = .int (lo + (i : Int)) := by
  unfold rangeD at h
  rw [List.getElem?_map] at h
  cases q : (List.range n)[i]? with
  | none => rw [q] at h; cases h
  | some j =>
    rw [q] at h
    cases h
    have := List.getElem?_eq_some_iff.mp q
    obtain ⟨h1, h2⟩ := this
    simp at h2
    subst h2
    rfl
theorem Walks.rng {w : Wd} {lo : Int} {n : Nat} : Walks K (Itr lo n) w (rangeD lo n) none := by
  refine ⟨fun i w' H' h' hi l r _ => ?_, fun w' H' h' l r _ => ?_, fun i x w' H' H2 h' d hd l r _ y => ?_⟩
  · rw [rangeD_length] at hi
    exact hi
  · rw [rangeD_length]
    exact Nat.le_refl n
  · obtain ⟨rfl, rfl⟩ := y
    rw [rangeD_get hd]
    exact ⟨w', Le.refl _, r, .int _⟩
/-- bounds of a range (told by a flag that never computes) -/
noncomputable def okR (j : Int) : Prop := -1000000 ≤ j ∧ j ≤ 1000000
noncomputable instance (j : Int) : Decidable (okR j) := Classical.propDecidable _
noncomputable def okR2 (i j : Int) : Prop := -1000000 ≤ i ∧ i ≤ 1000000 ∧ j ≤ 1000000 ∧ -1000000 ≤ j
noncomputable instance (i j : Int) : Decidable (okR2 i j) := Classical.propDecidable _
noncomputable def iRange1 (as : MeL) : Im := fun G h => (as G h).bind fun xs h1 => match xs with
  | [.int j] => if okR j then .ok (rangeD 0 j.toNat, none) h1 else .stuck
  | _ => .stuck
noncomputable def iRange2 (as : MeL) : Im := fun G h => (as G h).bind fun xs h1 => match xs with
  | [.int i, .int j] => if okR2 i j then .ok (rangeD i (j - i).toNat, none) h1 else .stuck
  | _ => .stuck
theorem OutI.bindA {mg : Str → Option Value} {w : Wd} {σ : L2.St} {G : Env} {h : AH} {as : MeL} {R : List V → Hp → Prop} {Q : It → Hp → Prop} {k : List D → AH → Res (List D × Option Nat)} (o : OutI K mg W w σ Q ((as G h).bind k))
    (hq : ∀ d h1 v w1 H1, as G h = .ok d h1 → Le w w1 → RepH K w1 H1 h1 → Ra K w1 v d → OutI K mg W w1 σ Q (k d h1) → R v H1) : OutA K mg W w σ R (as G h) := by
  cases e : as G h with
  | ok d h1 =>
    rw [e] at o
    refine fun v w1 H1 l r x => hq d h1 v w1 H1 e l r x ?_
    have o : OutI K mg W w σ Q (k d h1) := o
    cases z : k d h1 with
    | ok a h2 =>
      rw [z] at o
      exact fun J w2 H2 l2 r2 x2 => o J w2 H2 (l.trans l2) r2 x2
    | exc c fs h2 => rw [z] at o; exact OutX.mono l o
    | stuck => rw [z] at o; exact o
  | exc c fs h1 =>
    rw [e] at o
    exact o
  | stuck =>
    rw [e] at o
    exact o
variable {a b : Expr} {as : MeL} {p pos : Pos}
theorem i_range1 (hm : X.mg "range" = none) (ha : PA X [a] (TAr X W as)) (hg : Gl X "range" := by rfl) (hs : starEach [a] X.env = [(false, eval a X.env)] := by rfl) : PI X tg (.Call (.Name "range" p) [a] [] pos) (tI X W (iRange1 as)) := by
  refine (pi_range1 hg hm ha hs).wk fun σ H R ⟨w, G, h, g, r, o⟩ => ⟨w, G, h, g, r, OutI.bindA (as := as) o fun d h2 v w1 H1 em l r1 x o1 => ?_⟩
  split at o1
  · rename_i j
    split at o1
    · rename_i c
      have c : -1000000 ≤ j ∧ j ≤ 1000000 := c
      obtain ⟨v, rfl, rv⟩ := ra_one x
      cases rv
      exact ⟨j, rfl, by omega, by omega, o1 _ w1 H1 (Le.refl _) r1 Walks.rng⟩
    · exact o1.elim
  · exact o1.elim
/-! zip, enumerate -/
theorem Walks.zip {K : PySem.W.Frag} {w : Wd} {J : It} {as bs : List D} {xs ys : List V} (h1 : Ra K w xs as) (h2 : Ra K w ys bs)
    (hw : ∀ w' H' h', LeX w w' → RepH K w' H' h' → ∃ G : Hp → Prop, G H' ∧ Walk J (min xs.length ys.length) G (YPair (fun i => xs[i]?) (fun i => ys[i]?))) : Walks K J w ((as.zip bs).map fun p => D.tup [p.1, p.2]) none := by
  have l1 := h1.length
  have l2 := h2.length
  have hl : ((as.zip bs).map fun p => D.tup [p.1, p.2]).length = min xs.length ys.length := by
    rw [List.length_map, List.length_zip, l1, l2]
  refine ⟨fun i w' H' h' hi l r _ => ?_, fun w' H' h' l r _ => ?_, fun i x w' H' H2 h' d hd l r _ y => ?_⟩
  · obtain ⟨P, p, wk⟩ := hw w' H' h' l r
    rw [hl] at hi
    exact wk.goes i H' hi p
  · obtain ⟨P, p, wk⟩ := hw w' H' h' l r
    rw [hl]
    exact wk.stops H' p
  · obtain ⟨P, p, wk⟩ := hw w' H' h' l r
    have hi : i < min xs.length ys.length := by
      rw [← hl]
      exact (List.getElem?_eq_some_iff.mp hd).1
    obtain ⟨T, u, v, rfl, hT, rfl, e1, e2⟩ := wk.yields i H' x H2 hi p y
    rw [List.getElem?_map] at hd
    cases q : (as.zip bs)[i]? with
    | none => rw [q] at hd; cases hd
    | some pr =>
      rw [q] at hd
      cases hd
      obtain ⟨q1, q2⟩ := List.getElem?_zip_eq_some.mp q
      obtain ⟨u', g1, ru⟩ := h1.get q1
      obtain ⟨v', g2, rv⟩ := h2.get q2
      have e1 : xs[i]? = some u := e1
      have e2 : ys[i]? = some v := e2
      rw [e1] at g1
      rw [e2] at g2
      cases g1
      cases g2
      exact ⟨w'.add T _, r.le_add hT, r.add hT, rv_tup r hT (.cons (Rv_monoX l ru) (.cons (Rv_monoX l rv) .nil))⟩
end
end AB
/-! AB: loops, comprehensions, list methods, defs and their calls. -/
namespace AB
open PySem PySem.Spec PyProof.Rows L2

/-! ### for -/
open Classical in
noncomputable def forGo (p : Pat) (body : Ms) (src : Option Nat) (all : List D) : List D → Env → AH → SR
  | [], G, h => if Still src all h then .next G h else .stuck
  | d :: r, G, h => if Still src all h then
      match asg p d G with
      | some G1 => match body G1 h with
        | .next G2 h2 => forGo p body src all r G2 h2
        | .cont G2 h2 => forGo p body src all r G2 h2
        | .brk G2 h2 => .next G2 h2
        | .ret x h2 => .ret x h2
        | .exc c fs G2 h2 => .exc c fs G2 h2
        | .stuck => .stuck
      | none => .stuck
    else .stuck
noncomputable def sFor (p : Pat) (it : Im) (body : Ms) : Ms := fun G h => (it G h).toS G fun a h1 => forGo p body a.2 a.1 a.1 G h1
theorem OutS.bindI {K : PySem.W.Frag} {mg : Str → Option Value} {W : WX} {w : Wd} {σ : L2.St} {G : Env} {h : AH} {D : Ends} {m : Im} {R : It → Hp → Prop} {k : List AB.D × Option Nat → AH → SR} (g : RepG K w σ G) (o : OutS K mg W D w ((m G h).toS G k))
    (hq : ∀ all src h1 J w1 H1, Le w w1 → RepH K w1 H1 h1 → Walks K J w1 all src → OutS K mg W D w1 (k (all, src) h1) → R J H1) : OutI K mg W w σ R (m G h) := by
  cases e : m G h with
  | ok d h1 =>
    rw [e] at o
    exact fun J w1 H1 l r x => hq d.1 d.2 h1 J w1 H1 l r x (OutS.mono l o)
  | exc c fs h1 =>
    rw [e] at o
    exact fun cls dd w1 H1 e l r x => o cls dd σ w1 H1 e l (g.mono l) r x
  | stuck =>
    rw [e] at o
    exact o
section
variable {X : Cx} {W : WX} {pos : Pos} {tg iter : Expr} {body : List Stmt} {p : Pat} {im : Im} {mb : Ms}
theorem s_for (hp : PassesOwn (model X.prog X.w) X.A X.env X.xe) (hi : PI X tg iter (tI X W im)) (hg : PG X tg (gP X.K p)) (hb : PSs X body (TSS X W mb)) (hc : X.calm = true := by rfl) (hs : ∀ x, foldedSetIterable iter X.env x = pure x := by intro _; rfl) :
    PS X (.For tg iter body [] pos) (TSS X W (sFor p im mb)) := by
  refine (ps_for hp hc hi hg hb hs).wk fun D σ H ⟨w, G, h, g, r, o⟩ => ⟨w, G, h, g, r, OutS.bindI (m := im) g o fun all src h1 J w1 H1 l r1 wk o1 => ?_⟩
  refine ⟨fun i m σ' H' => m = all.length - i ∧ i ≤ all.length ∧ ∃ w' G' h', Le w1 w' ∧ RepG X.K w' σ' G' ∧ RepH X.K w' H' h' ∧ OutS X.K X.mg W D w' (forGo p mb src all (all.drop i) G' h'),
    ⟨all.length, by simp, Nat.zero_le _, w1, G, h1, Le.refl _, g.mono l, r1, o1⟩, ?_⟩
  rintro i m σ' H' ⟨rfl, hi2, w', G', h', l', g', r', o'⟩
  by_cases hlt : i < all.length
  · have ed : all.drop i = all[i] :: all.drop (i + 1) := List.drop_eq_getElem_cons hlt
    rw [ed] at o'
    unfold forGo at o'
    split at o'
    · rename_i still
      refine .inr ⟨wk.goes i w' H' h' hlt l'.x r' still, fun σ2 H2 => ∃ w' G' h', Le w1 w' ∧ RepG X.K w' σ2 G' ∧ RepH X.K w' H2 h' ∧ OutS X.K X.mg W D w' (forGo p mb src all (all.drop (i + 1)) G' h'),
        fun σ2 H2 hN => ⟨all.length - (i + 1), by omega, rfl, hlt, hN⟩, fun x H2 hy => ?_⟩
      obtain ⟨w2, l2, r2, rv⟩ := wk.yields i x w' H' H2 h' all[i] (List.getElem?_eq_getElem hlt) l'.x r' still hy
      split at o'
      · rename_i G1 e1
        refine asg_rep r2 p all[i] x σ' G' G1 _ rv (g'.mono l2) e1 fun σ3 g3 _ => ?_
        refine ⟨w2, G1, h', g3, r2, ?_⟩
        have o2 := OutS.mono l2 o'
        cases eb : mb G1 h' with
        | next G2 h2 =>
          rw [eb] at o2
          exact fun σ4 w4 H4 l4 g4 r4 => ⟨w4, G2, h2, l'.trans (l2.trans l4), g4, r4, OutS.mono l4 o2⟩
        | cont G2 h2 =>
          rw [eb] at o2
          exact fun σ4 w4 H4 l4 g4 r4 => ⟨w4, G2, h2, l'.trans (l2.trans l4), g4, r4, OutS.mono l4 o2⟩
        | brk G2 h2 =>
          rw [eb] at o2
          exact o2
        | ret d h2 =>
          rw [eb] at o2
          exact o2
        | exc c fs G2 h2 =>
          rw [eb] at o2
          exact o2
        | stuck =>
          rw [eb] at o2
          exact o2
      · exact o'.elim
    · exact o'.elim
  · have e : i = all.length := by omega
    subst e
    rw [List.drop_length] at o'
    unfold forGo at o'
    split at o'
    · rename_i still
      exact .inl ⟨wk.stops w' H' h' l'.x r' still, o' σ' w' H' (Le.refl _) g' r'⟩
    · exact o'.elim
end

/-! ### while -/
section
variable {X : Cx} {W : WX} {pos : Pos} {c : Expr} {body : List Stmt} {t : MeT} {mb : Ms}
end

/-! ### comprehensions -/
noncomputable def wipeG (G : Env) : List Nat → Env
  | [] => G
  | v :: vs => (wipeG G vs).set v none
theorem wipe_rep {K : PySem.W.Frag} {w : Wd} {σ : L2.St} {G : Env} (g : RepG K w σ G) : ∀ vs : List Nat, RepG K w (wipe σ vs) (wipeG G vs)
  | [] => g
  | v :: vs => by
    have ih := wipe_rep g vs
    refine ⟨by unfold wipe wipeG; rw [List.length_set, List.length_set, ih.1], fun i d e => ?_⟩
    unfold wipeG at e
    by_cases hi : i = v
    · subst hi
      have hl : i < (wipeG G vs).length := by
        have := (List.getElem?_eq_some_iff.mp e).1
        rwa [List.length_set] at this
      rw [List.getElem?_set_self hl] at e
      cases e
    · rw [List.getElem?_set_ne (Ne.symm hi)] at e
      obtain ⟨x, h1, h2⟩ := ih.2 i d e
      refine ⟨x, ?_, h2⟩
      unfold wipe
      rw [List.getElem?_set_ne (Ne.symm hi)]
      exact h1
noncomputable def tYesM : MeT := fun _ h => .ok true h
/-- in a comprehension nothing is raised -/
noncomputable def Res.noX {α : Type} (r : Res α) : Res α := match r with
  | .ok a h => .ok a h
  | _ => .stuck
@[simp] theorem Res.noX_ok {α : Type} (a : α) (h : AH) : (Res.ok a h).noX = .ok a h := rfl
@[simp] theorem Res.noX_exc {α : Type} (c : Str) (fs : List (Str × D)) (h : AH) : (Res.exc c fs h : Res α).noX = .stuck := rfl
@[simp] theorem Res.noX_stuck {α : Type} : (Res.stuck : Res α).noX = .stuck := rfl
open Classical in
noncomputable def compGo (p : Pat) (t : MeT) (e : Me) (src : Option Nat) (all : List D) (G : Env) : List D → AH → Res (List D)
  | [], h => if Still src all h then .ok [] h else .stuck
  | d :: r, h => if Still src all h then
      match asg p d G with
      | some G1 => (t G1 h).noX.bind fun b h1 => if b = true then (e G1 h1).noX.bind fun x h2 => (compGo p t e src all G r h2).bind fun xs h3 => .ok (x :: xs) h3 else compGo p t e src all G r h1
      | none => .stuck
    else .stuck
noncomputable def lComp (p : Pat) (vs : List Nat) (it : Im) (t : MeT) (e : Me) : MeL := fun G h => (it G h).bind fun a h1 => if a.1.length ≤ big then compGo p t e a.2 a.1 (wipeG G vs) a.1 h1 else .stuck
theorem OutF.bindI {K : PySem.W.Frag} {mg : Str → Option Value} {W : WX} {w : Wd} {σ : L2.St} {G : Env} {h : AH} {m : Im} {R : It → Hp → Prop} {Q : VK} {k : List D × Option Nat → AH → Res (List D)} (o : OutF K mg W w σ Q ((m G h).bind k))
    (hq : ∀ all src h1 J w1 H1, Le w w1 → RepH K w1 H1 h1 → Walks K J w1 all src → OutF K mg W w1 σ Q (k (all, src) h1) → R J H1) : OutI K mg W w σ R (m G h) := by
  cases e : m G h with
  | ok d h1 =>
    rw [e] at o
    exact fun J w1 H1 l r x => hq d.1 d.2 h1 J w1 H1 l r x (OutF.mono l o)
  | exc c fs h1 =>
    rw [e] at o
    exact o
  | stuck =>
    rw [e] at o
    exact o
/-- no wish: nothing is raised -/
noncomputable abbrev W0 : WX := fun _ _ _ _ => False
/-- the world in which the list at p, told apart, must stay as it is -/
noncomputable def Wd.hold (w : Wd) (p : Addr) (u : HO) : Wd := ⟨w.S, upd w.F p u, w.mu, w.N, w.LK⟩
noncomputable def Wd.with (w : Wd) (F : Hp) : Wd := ⟨w.S, F, w.mu, w.N, w.LK⟩
theorem RepH.hold {K : PySem.W.Frag} {w : Wd} {H : Hp} {h : AH} {p : Addr} {u : HO} (r : RepH K w H h) (ap : Apart w p) : RepH K (w.hold p u) (upd H p u) h := by
  refine ⟨fun a x e => ?_, r.len, r.inj, fun n o' e => ?_, fun a x e => ?_, fun a x e => ?_⟩
  · have e : w.S a = some x := e
    have q : a ≠ p := by
      intro z
      rw [z, ap.s] at e
      cases e
    rw [upd_ne q]
    exact r.ex _ _ e
  · obtain ⟨a, b⟩ := r.cell n o' e
    have hn : n < w.N := by
      rw [r.len]
      exact (List.getElem?_eq_some_iff.mp e).1
    refine ⟨a, ?_⟩
    have b2 : RepO K w (upd H p u) (w.mu n) o' := b.mono (Le.refl _) (upd_ne (ap.m n hn))
    cases o' with
    | lst ds => exact b2
    | ins C fs => exact b2
    | dct kvs => exact b2
    | lck kvs => exact b2
    | hld ks => exact b2
  · have e : upd w.F p u a = some x := e
    by_cases q : a = p
    · rw [q, upd_same] at e
      rw [q, upd_same]
      exact e
    · rw [upd_ne q] at e
      rw [upd_ne q]
      exact r.exF _ _ e
  · have e : upd w.F p u a = some x := e
    by_cases q : a = p
    · rw [q]
      exact ⟨ap.s, ap.m⟩
    · rw [upd_ne q] at e
      exact r.dis a x e
/-- the held list goes free again -/
theorem RepH.free {K : PySem.W.Frag} {w : Wd} {H : Hp} {h : AH} {F : Hp} {p : Addr} {u : HO} (r : RepH K w H h) (e : w.F = upd F p u) (hp : F p = none) : RepH K (w.with F) H h ∧ Apart (w.with F) p := by
  have sub : ∀ a x, F a = some x → w.F a = some x := fun a x q => by
    have z : a ≠ p := fun z => by
      rw [z, hp] at q
      cases q
    rw [e, upd_ne z]
    exact q
  have d := r.dis p u (by rw [e, upd_same])
  refine ⟨⟨r.ex, r.len, r.inj, fun n o' q => ?_, fun a x q => r.exF _ _ (sub a x q), fun a x q => r.dis a x (sub a x q)⟩, d.1, d.2, hp⟩
  obtain ⟨a, b⟩ := r.cell n o' q
  refine ⟨a, ?_⟩
  cases o' with
  | lst ds => exact b
  | ins C fs => exact b
  | dct kvs => exact b
  | lck kvs => exact b
  | hld ks => exact b
/-- a list goes on in its place -/
theorem RepH.regrow {K : PySem.W.Frag} {w : Wd} {H : Hp} {h : AH} {F : Hp} {p : Addr} {u u' : HO} (r : RepH K w H h) (e : w.F = upd F p u) (hp : F p = none) : RepH K (w.with (upd F p u')) (upd H p u') h := by
  obtain ⟨r1, ap⟩ := r.free e hp
  exact r1.hold ap
section
variable {X : Cx} {W : WX} {pos : Pos} {tg iter elt : Expr} {ifs : List Expr} {scope : Scope} {own : List (Str × Nat)} {p : Pat} {im : Im} {mt : MeT} {me : Me}
theorem lc_read (p : Pat) (hsl : ∀ i ∈ p.slots, i ∈ own.map (·.2)) {σ : L2.St} {H : Hp} {Q : VK} (t : TF X W (lComp p (own.map (·.2)) im mt me) σ H Q) : tLc (tI X W im) (gP X.K p) (TTT X W0 mt) (TM X W0 me) (own.map (·.2)) σ H Q := by
  obtain ⟨w, G, h, g, r, o⟩ := t
  refine ⟨w, G, h, g, r, OutF.bindI (m := im) o fun all src h1 J w1 H1 l r1 wk o1 => ?_⟩
  intro Dd hD
  have o1 : OutF X.K X.mg W w1 σ Q (if all.length ≤ big then compGo p mt me src all (wipeG G (own.map (·.2))) all h1 else .stuck) := o1
  split at o1
  · rename_i hbig
    have g1 : RepG X.K w1 (wipe σ (own.map (·.2))) (wipeG G (own.map (·.2))) := wipe_rep (g.mono l) _
    generalize hvs : own.map (·.2) = vs at *
    have apD : Apart w1 Dd := ⟨r1.ex.free hD, fun n hn => r1.ne hn hD, r1.exF.free hD⟩
    refine ⟨fun i m H' => m = all.length - i ∧ i ≤ all.length ∧ ∃ w' h' xs ds, w'.F = upd w1.F Dd (.lst xs) ∧ LeX w1 w' ∧ RepH X.K w' H' h' ∧ Ra X.K w' xs ds ∧ ds.length ≤ i ∧
      OutF X.K X.mg W (w'.with w1.F) σ Q ((compGo p mt me src all (wipeG G vs) (all.drop i) h').bind fun ys h2 => .ok (ds ++ ys) h2),
      ⟨all.length, by simp, Nat.zero_le _, w1.hold Dd (.lst []), h1, [], [], rfl, ⟨Ext.refl _, Nat.le_refl _, fun _ _ => rfl, rfl⟩, r1.hold apD, .nil, Nat.le_refl _, ?_⟩, ?_⟩
    · have e : ∀ r : Res (List D), (r.bind fun ys h2 => .ok ([] ++ ys) h2) = r := fun r => by cases r <;> rfl
      rw [List.drop_zero, e]
      exact o1
    · rintro i m H' ⟨rfl, hi2, w', h', xs, ds, eF, lx, r', ra, hds, o'⟩
      obtain ⟨rf, apf⟩ := r'.free eF apD.f
      have lf : LeX w1 (w'.with w1.F) := ⟨lx.ex, lx.n, lx.mu, lx.lk⟩
      have hD' : H' Dd = some (.lst xs) := r'.exF _ _ (by rw [eF, upd_same])
      by_cases hlt : i < all.length
      · have ed : all.drop i = all[i] :: all.drop (i + 1) := List.drop_eq_getElem_cons hlt
        rw [ed] at o'
        unfold compGo at o'
        split at o'
        · rename_i still
          refine .inr ⟨wk.goes i w' H' h' hlt lx r' still, fun H2 => ∃ w' h' xs ds, w'.F = upd w1.F Dd (.lst xs) ∧ LeX w1 w' ∧ RepH X.K w' H2 h' ∧ Ra X.K w' xs ds ∧ ds.length ≤ i + 1 ∧
            OutF X.K X.mg W (w'.with w1.F) σ Q ((compGo p mt me src all (wipeG G vs) (all.drop (i + 1)) h').bind fun ys h2 => .ok (ds ++ ys) h2),
            fun H2 hN => ⟨all.length - (i + 1), by omega, rfl, hlt, hN⟩, fun x H2 hy => ?_⟩
          obtain ⟨w2, l2, r2, rv⟩ := wk.yields i x w' H' H2 h' all[i] (List.getElem?_eq_getElem hlt) lx r' still hy
          split at o'
          · rename_i G1 e1
            refine asg_rep r2 p all[i] x (wipe σ vs) _ G1 _ rv (g1.monoX (lx.trans l2.x)) e1 fun σ3 g3 hw => ⟨(hw vs hsl).trans (wipe_wipe fun _ hi => hi), w2, G1, h', g3, r2, ?_⟩
            cases em : mt G1 h' with
            | exc c fs h2 => rw [em] at o'; exact o'.elim
            | stuck => rw [em] at o'; exact o'.elim
            | ok b h2 =>
              rw [em] at o'
              intro w3 H3 l3 r3
              have o' : OutF X.K X.mg W (w'.with w1.F) σ Q ((if b = true then (me G1 h2).noX.bind fun x h2 => (compGo p mt me src all (wipeG G vs) (all.drop (i + 1)) h2).bind fun xs h3 => .ok (x :: xs) h3 else compGo p mt me src all (wipeG G vs) (all.drop (i + 1)) h2).bind fun ys h2 => .ok (ds ++ ys) h2) := o'
              have F3 : w3.F = upd w1.F Dd (.lst xs) := by rw [l3.f, l2.f, eF]
              cases b with
              | false =>
                rw [if_neg (by decide)] at o'
                refine iteF ⟨w3, h2, xs, ds, F3, lx.trans (l2.x.trans l3.x), r3, Ra_mono (l2.trans l3) ra, by omega, OutF.mono ?_ o'⟩
                exact ⟨(l2.trans l3).ex, (l2.trans l3).n, (l2.trans l3).mu, rfl, (l2.trans l3).lk⟩
              | true =>
                rw [if_pos rfl] at o'
                refine iteT ⟨w3, G1, h2, g3.mono l3, r3, ?_⟩
                cases ee : me G1 h2 with
                | exc c fs h3 => rw [ee] at o'; exact o'.elim
                | stuck => rw [ee] at o'; exact o'.elim
                | ok y h3 =>
                  rw [ee] at o'
                  intro v w4 H4 l4 r4 rv4
                  have F4 : w4.F = upd w1.F Dd (.lst xs) := by rw [l4.f, F3]
                  have lxs := ra.length
                  refine ⟨xs, r4.exF _ _ (by rw [F4, upd_same]), big_lt (by omega), w4.with (upd w1.F Dd (.lst (xs ++ [v]))), h3, xs ++ [v], ds ++ [y], rfl, ?_, r4.regrow F4 apD.f, ?_, ?_, ?_⟩
                  · have l := lx.trans (l2.x.trans (l3.x.trans l4.x))
                    exact ⟨l.ex, l.n, l.mu, l.lk⟩
                  · have ra4 : Ra X.K w4 xs ds := Ra_mono (l2.trans (l3.trans l4)) ra
                    exact ra4.append (.cons rv4 .nil)
                  · rw [List.length_append]
                    exact Nat.succ_le_succ hds
                  · have eq : ∀ r : Res (List D), ((r.bind fun zs h3 => .ok (y :: zs) h3).bind fun ys h2 => .ok (ds ++ ys) h2) = r.bind fun ys h2 => .ok ((ds ++ [y]) ++ ys) h2 := fun r => by
                      cases r with
                      | ok a h =>
                        show Res.ok (ds ++ (y :: a)) h = Res.ok ((ds ++ [y]) ++ a) h
                        rw [List.append_assoc]
                        rfl
                      | exc c fs h => rfl
                      | stuck => rfl
                    have o2 : OutF X.K X.mg W (w'.with w1.F) σ Q (((compGo p mt me src all (wipeG G vs) (all.drop (i + 1)) h3).bind fun zs h3 => .ok (y :: zs) h3).bind fun ys h2 => .ok (ds ++ ys) h2) := o'
                    rw [eq] at o2
                    refine OutF.mono ?_ o2
                    have l := l2.trans (l3.trans l4)
                    exact ⟨l.ex, l.n, l.mu, rfl, l.lk⟩
          · exact o'.elim
        · exact o'.elim
      · have e : i = all.length := by omega
        subst e
        rw [List.drop_length] at o'
        unfold compGo at o'
        split at o'
        · rename_i still
          refine .inl ⟨wk.stops w' H' h' lx r' still, ?_⟩
          have o2 : OutF X.K X.mg W (w'.with w1.F) σ Q (.ok (ds ++ []) h') := o'
          rw [List.append_nil] at o2
          exact o2 Dd xs (w'.with w1.F) H' (Le.refl _) rf apf hD' ra
        · exact o'.elim
  · exact o1.elim
theorem f_lc (p : Pat) (hN : X.N.Nodup) (hi : PI X tg iter (tI X W im)) (ok : BlkOk X.N X.env.scope scope own)
    (hg : ∀ (s : Shared) (H : Hp) (C : Addr) (cl : List (Str × Addr)) (fp : List Addr), PG (X.blk s H scope (compEnvC scope cl C X.env) fp) tg (gP X.K p)) (ht : ∀ (s : Shared) (H : Hp) (C : Addr) (cl : List (Str × Addr)) (fp : List Addr), PTs (X.blk s H scope (compEnvC scope cl C X.env) fp) ifs (TTT X W0 mt))
    (he : ∀ (s : Shared) (H : Hp) (C : Addr) (cl : List (Str × Addr)) (fp : List Addr), PE (X.blk s H scope (compEnvC scope cl C X.env) fp) elt (TM X W0 me)) (hsl : ∀ i ∈ p.slots, i ∈ own.map (·.2)) (hc : X.calm = true := by rfl) (hs : ∀ x, foldedSetIterable iter X.env x = pure x := by intro _; rfl) :
    PE X (.ListComp elt [⟨tg, iter, ifs, 0⟩] scope pos) (TF X W (lComp p (own.map (·.2)) im mt me)) :=
  (pe_lc hc hN hi ok hg ht he hs).wk fun _ _ _ t => lc_read p hsl t
/-- name = [..] on one line, the name a local of its own -/
theorem set_read {m : Me} {i : Nat} {D : Ends} {σ : L2.St} {H : Hp} (t : TSS X W (sSet i m) D σ H) : TM X W m σ H fun x H1 => gName i x σ H1 D.nx := by
  obtain ⟨w, G, h, g, r, o⟩ := t
  exact ⟨w, G, h, g, r, OutS.bindE (m := m) g o fun d h1 v w1 H1 l r1 x o1 => o1 _ w1 H1 (Le.refl _) ((g.mono l).set i x) r1⟩
theorem s_setLc (i : Nat) {y : Str} {py spos : Pos} {m : Me} (p : Pat) (hm : ∀ (σ : L2.St) (H : Hp) (Q : VK), TM X W m σ H Q → TF X W (lComp p (own.map (·.2)) im mt me) σ H Q) (hN : X.N.Nodup) (hi : PI X tg iter (tI X W im)) (ok : BlkOk X.N X.env.scope scope own)
    (hg : ∀ (s : Shared) (H : Hp) (C : Addr) (cl : List (Str × Addr)) (fp : List Addr), PG (X.blk s H scope (compEnvC scope cl C X.env) fp) tg (gP X.K p)) (ht : ∀ (s : Shared) (H : Hp) (C : Addr) (cl : List (Str × Addr)) (fp : List Addr), PTs (X.blk s H scope (compEnvC scope cl C X.env) fp) ifs (TTT X W0 mt))
    (he : ∀ (s : Shared) (H : Hp) (C : Addr) (cl : List (Str × Addr)) (fp : List Addr), PE (X.blk s H scope (compEnvC scope cl C X.env) fp) elt (TM X W0 me)) (hsl : ∀ i ∈ p.slots, i ∈ own.map (·.2)) (hy : X.N[i]? = some y := by rfl) (hyl : X.env.scope.names.lookup y = some .local := by rfl)
    (hk : X.env.scope.kind = .function := by rfl) (hl : (py.line == pos.line) = true := by rfl) (ha : (scope.names.any fun (n, k) => n == y && (k == .local || k == .cell)) = false := by rfl) (hc : X.calm = true := by rfl) (hs : ∀ x, foldedSetIterable iter X.env x = pure x := by intro _; rfl) :
    PS X (.Assign [.Name y py] (.ListComp elt [⟨tg, iter, ifs, 0⟩] scope pos) spos) (TSS X W (sSet i m)) :=
  (ps_setLc hc hN hy hyl (sw_true hk hyl hl ha) hi ok hg ht he hs).wk fun D σ H t => lc_read p hsl (hm _ _ _ (set_read t))
end
end AB
/-! AB: defs, their calls; list methods; raise. -/
namespace AB
open PySem PySem.Spec PyProof.Rows L2

mutual
/-- no object from n on is named -/
noncomputable def D.under (n : Nat) : D → Bool
  | .tup ds => underL n ds
  | .lst ds => underL n ds
  | .rol ds => underL n ds
  | .loc m => decide (m < n)
  | _ => true
noncomputable def underL (n : Nat) : List D → Bool
  | [] => true
  | d :: ds => d.under n && underL n ds
end
noncomputable def AO.under (n : Nat) : AO → Bool
  | .lst ds => underL n ds
  | .ins _ fs => underL n (fs.map (·.2))
  | .dct kvs => underL n (kvs.map (·.2))
  | .lck kvs => underL n (kvs.map (·.2))
  | .hld _ => true
section
variable {K : PySem.W.Frag} {S : Hp} {mu : Nat → Addr} {N n : Nat}
mutual
theorem RepV.lower : ∀ (d : D) (v : V), RepV K S mu N v d → d.under n = true → RepV K S mu n v d
  | .non, _, h, _ => by cases h; exact .non
  | .bl _, _, h, _ => by cases h; exact .bl _
  | .int _, _, h, _ => by cases h; exact .int _
  | .str _, _, h, _ => by cases h; exact .str _
  | .tup ds, _, h, b => by
    cases h with
    | tup x y => exact .tup x (RepAll.lower ds _ y (by unfold D.under at b; exact b))
  | .lst ds, _, h, b => by
    cases h with
    | lst x y => exact .lst x (RepAll.lower ds _ y (by unfold D.under at b; exact b))
  | .rol ds, _, h, b => by
    cases h with
    | rol x y => exact .rol x (RepAll.lower ds _ y (by unfold D.under at b; exact b))
  | .loc m, _, h, b => by
    cases h with
    | loc x => exact .loc (of_decide_eq_true (by unfold D.under at b; exact b))
  | .con _, _, h, _ => by cases h; exact .con
theorem RepAll.lower : ∀ (ds : List D) (vs : List V), RepAll K S mu N vs ds → underL n ds = true → RepAll K S mu n vs ds
  | [], _, h, _ => by cases h; exact .nil
  | d :: ds, _, h, b => by
    cases h with
    | cons x y =>
      unfold underL at b
      rw [Bool.and_eq_true] at b
      exact .cons (RepV.lower d _ x b.1) (RepAll.lower ds _ y b.2)
end
mutual
theorem RepV.is_under : ∀ (d : D) (v : V), RepV K S mu N v d → d.under N = true
  | .non, _, _ => by unfold D.under; rfl
  | .bl _, _, _ => by unfold D.under; rfl
  | .int _, _, _ => by unfold D.under; rfl
  | .str _, _, _ => by unfold D.under; rfl
  | .tup ds, _, h => by
    cases h with
    | tup x y => unfold D.under; exact RepAll.is_under ds _ y
  | .lst ds, _, h => by
    cases h with
    | lst x y => unfold D.under; exact RepAll.is_under ds _ y
  | .rol ds, _, h => by
    cases h with
    | rol x y => unfold D.under; exact RepAll.is_under ds _ y
  | .loc m, _, h => by
    cases h with
    | loc x => unfold D.under; exact decide_eq_true x
  | .con _, _, _ => by unfold D.under; rfl
theorem RepAll.is_under : ∀ (ds : List D) (vs : List V), RepAll K S mu N vs ds → underL N ds = true
  | [], _, _ => by unfold underL; rfl
  | d :: ds, _, h => by
    cases h with
    | cons x y =>
      unfold underL
      rw [RepV.is_under d _ x, RepAll.is_under ds _ y]
      rfl
end
end
/-- the objects ahead of n hold nothing from n on: they stand as they stood, or this is seen -/
noncomputable def OkCells (n : Nat) (h0 h1 : AH) : Prop := ∀ m o, m < n → h1[m]? = some o → h0[m]? = some o ∨ o.under n = true
noncomputable def Wd.cut (w : Wd) (n : Nat) : Wd := ⟨w.S, w.F, w.mu, n, w.LK⟩
theorem RepO.under {K : PySem.W.Frag} {w : Wd} {H : Hp} {a : Addr} {o : AO} (r : RepO K w H a o) : o.under w.N = true := by
  cases o with
  | lst ds =>
    obtain ⟨xs, _, ra⟩ := r
    exact RepAll.is_under ds _ ra
  | ins C fs =>
    obtain ⟨_, dx, fv, _, _, _, ra, _⟩ := r
    exact RepAll.is_under _ _ ra
  | dct kvs =>
    obtain ⟨_, _, _, ra⟩ := r
    exact RepAll.is_under _ _ ra
  | lck kvs =>
    obtain ⟨_, _, _, _, _, ra⟩ := r
    exact RepAll.is_under _ _ ra
  | hld ks => rfl
theorem RepO.lower {K : PySem.W.Frag} {w : Wd} {H : Hp} {a : Addr} {o : AO} {n : Nat} (r : RepO K w H a o) (b : o.under n = true) : RepO K (w.cut n) H a o := by
  cases o with
  | lst ds =>
    obtain ⟨xs, e, ra⟩ := r
    exact ⟨xs, e, RepAll.lower ds _ ra b⟩
  | ins C fs =>
    obtain ⟨Ca, dx, fv, ec, e1, e2, ra, e3⟩ := r
    exact ⟨Ca, dx, fv, ec, e1, e2, RepAll.lower _ _ ra b, e3⟩
  | dct kvs =>
    obtain ⟨kv, e1, e2, ra⟩ := r
    exact ⟨kv, e1, e2, RepAll.lower _ _ ra b⟩
  | lck kvs =>
    obtain ⟨o, kv, e1, e0, e2, ra⟩ := r
    exact ⟨o, kv, e1, e0, e2, RepAll.lower _ _ ra b⟩
  | hld ks => exact r
/-- a def's own objects are forgotten -/
theorem RepH.cut {K : PySem.W.Frag} {w w1 : Wd} {H H1 : Hp} {h0 h1 : AH} (r0 : RepH K w H h0) (l : Le w w1) (r1 : RepH K w1 H1 h1) (ok : OkCells w.N h0 h1) : RepH K (w1.cut w.N) H1 (h1.take w.N) ∧ Le w (w1.cut w.N) := by
  have hl : w.N ≤ h1.length := by rw [← r1.len]; exact l.n
  refine ⟨⟨r1.ex, ?_, fun m n hm hn e => r1.inj m n (Nat.lt_of_lt_of_le hm l.n) (Nat.lt_of_lt_of_le hn l.n) e, fun m o e => ?_, r1.exF, fun a u e => ⟨(r1.dis a u e).1, fun n hn => (r1.dis a u e).2 n (Nat.lt_of_lt_of_le hn l.n)⟩⟩, l.ex, Nat.le_refl _, l.mu, l.f, l.lk⟩
  · show w.N = _
    rw [List.length_take]
    omega
  · have hm : m < w.N := by
      have := (List.getElem?_eq_some_iff.mp e).1
      rw [List.length_take] at this
      omega
    rw [List.getElem?_take, if_pos hm] at e
    obtain ⟨a, b⟩ := r1.cell m o e
    refine ⟨a, b.lower ?_⟩
    rcases ok m o hm e with q | q
    · obtain ⟨_, c⟩ := r0.cell m o q
      exact c.under
    · exact q
noncomputable abbrev Fn := List D → AH → Res D
noncomputable abbrev FnL := List D → AH → Res (List D)
open Classical in
noncomputable def finD (n : Nat) (h0 : AH) (d : D) (h1 : AH) : Res D :=
  if h1.length = n then .ok d h1 else if d.under n = true ∧ OkCells n h0 h1 then .ok d (h1.take n) else .stuck
open Classical in
noncomputable def finX {α : Type} (n : Nat) (h0 : AH) (c : Str) (fs : List (Str × D)) (h1 : AH) : Res α :=
  if h1.length = n then .exc c fs h1 else if underL n (fs.map (·.2)) = true ∧ OkCells n h0 h1 then .exc c fs (h1.take n) else .stuck
open Classical in
noncomputable def finL (n : Nat) (h0 : AH) (d : D) (h1 : AH) : Res (List D) := match d with
  | .loc k => match h1[k]? with
    | some (.lst ds) => if n ≤ k ∧ underL n ds = true ∧ OkCells n h0 h1 then .ok ds (h1.take n) else .stuck
    | _ => .stuck
  | _ => .stuck
/-- a def of n parameters and N slots -/
noncomputable def mDef (n N : Nat) (body : Ms) : Fn := fun ds h => if ds.length = n then
    match body (ds.map some ++ List.replicate (N - n) none) h with
    | .next _ h1 => finD h.length h .non h1
    | .ret d h1 => finD h.length h d h1
    | .exc c fs _ h1 => finX h.length h c fs h1
    | _ => .stuck
  else .stuck
/-- .. that hands back a new list -/
noncomputable def mDefL (n N : Nat) (body : Ms) : FnL := fun ds h => if ds.length = n then
    match body (ds.map some ++ List.replicate (N - n) none) h with
    | .ret d h1 => finL h.length h d h1
    | .exc c fs _ h1 => finX h.length h c fs h1
    | _ => .stuck
  else .stuck
noncomputable def spM (K : PySem.W.Frag) (mg : Str → Option Value) (m : Fn) : Sp := fun vs H Q E => ∃ w ds h, Ra K w vs ds ∧ RepH K w H h ∧ OutE K mg (fun c dd _ H => E c dd H) w [] Q (m ds h)
noncomputable def spL (K : PySem.W.Frag) (mg : Str → Option Value) (m : FnL) : Sp := fun vs H Q E => ∃ w ds h, Ra K w vs ds ∧ RepH K w H h ∧ OutF K mg (fun c dd _ H => E c dd H) w [] Q (m ds h)
theorem start_rep {K : PySem.W.Frag} {w : Wd} {N : List Str} {vs : List V} {ds : List D} (ra : Ra K w vs ds) : RepG K w (L2.start N vs) (ds.map some ++ List.replicate (N.length - ds.length) none) := by
  have hl := ra.length
  refine ⟨by simp [L2.start, hl], fun i d e => ?_⟩
  by_cases hi : i < ds.length
  · rw [List.getElem?_append_left (by simpa using hi), List.getElem?_map] at e
    have e2 : ds[i]? = some d := by
      cases q : ds[i]? with
      | none => rw [q] at e; cases e
      | some x =>
        rw [q] at e
        cases e
        rfl
    obtain ⟨v, h1, h2⟩ := ra.get e2
    refine ⟨v, ?_, h2⟩
    unfold L2.start
    rw [List.getElem?_append_left (by simp; omega), List.getElem?_map, h1]
    rfl
  · rw [List.getElem?_append_right (by simp; omega)] at e
    have := List.mem_of_getElem? e
    simp at this
section
variable {P : Program} {w : World} {K : PySem.W.Frag} {mg : Str → Option Value} {base : Heap}
/-- the end of a def that raises -/
theorem out_finX {E : XK} {w : Wd} {H : Hp} {h0 h1 : AH} {G1 : Env} {c : Str} {fs : List (Str × D)} {D : Ends} (r0 : RepH K w H h0)
    (o : (h1.length = w.N → OutX K mg (fun c dd _ H => E c dd H) w [] c fs h1) ∧ (h1.length ≠ w.N → underL w.N (fs.map (·.2)) = true ∧ OkCells w.N h0 h1 ∧ OutX K mg (fun c dd _ H => E c dd H) w [] c fs (h1.take w.N))) :
    OutS K mg (fun c dd _ H => E c dd H) D w (.exc c fs G1 h1) := by
  intro cls dd σ1 w1 H1 e l g r x
  by_cases q : h1.length = w.N
  · exact o.1 q cls dd w1 H1 e l r x
  · obtain ⟨hb, hc, ox⟩ := o.2 q
    obtain ⟨r2, l2⟩ := RepH.cut r0 l r hc
    refine ox cls dd (w1.cut w.N) H1 e l2 r2 ?_
    cases fs with
    | nil => exact x
    | cons f fs =>
      obtain ⟨p, fv, e1, e2, e3, ra⟩ := x
      exact ⟨p, fv, e1, e2, e3, RepAll.lower _ _ ra hb⟩
theorem sp_len {m : Ms} {n N : Nat} {vs : List V} {H : Hp} {Q : VK} {E : XK} (h : spM K mg (mDef n N m) vs H Q E) : vs.length = n := by
  obtain ⟨w, ds, h, ra, r, o⟩ := h
  unfold mDef at o
  split at o
  · rename_i e
    rw [ra.length]
    exact e
  · exact o.elim
theorem sp_start {m : Ms} {n : Nat} {N : List Str} {vs : List V} {H : Hp} {Q : VK} {E : XK} (h : spM K mg (mDef n N.length m) vs H Q E) : tS K mg (fun c dd _ H => E c dd H) m { nx := fun _ H' => Q .non H', rt := Q } (L2.start N vs) H := by
  obtain ⟨w, ds, h, ra, r, o⟩ := h
  unfold mDef at o
  split at o
  · rename_i e
    refine ⟨w, _, h, start_rep ra, r, ?_⟩
    rw [e]
    have fin : ∀ (d : D) (h1 : AH), OutE K mg (fun c dd _ H => E c dd H) w [] Q (finD h.length h d h1) → ∀ v w1 H1, Le w w1 → RepH K w1 H1 h1 → Rv K w1 v d → Q v H1 := by
      intro d h1 o v w1 H1 l r1 rv
      unfold finD at o
      split at o
      · exact o v w1 H1 l r1 rv
      · split at o
        · rename_i c
          rw [← r.len] at o c
          obtain ⟨r2, l2⟩ := RepH.cut r l r1 c.2
          exact o v (w1.cut w.N) H1 l2 r2 (RepV.lower d v rv c.1)
        · exact o.elim
    cases em : m (ds.map some ++ List.replicate (N.length - n) none) h with
    | next G1 h1 =>
      rw [em] at o
      exact fun σ' w1 H1 l g r1 => fin .non h1 o .non w1 H1 l r1 .non
    | ret d h1 =>
      rw [em] at o
      exact fun v w1 H1 l r1 rv => fin d h1 o v w1 H1 l r1 rv
    | brk G1 h1 => rw [em] at o; exact o.elim
    | cont G1 h1 => rw [em] at o; exact o.elim
    | stuck => rw [em] at o; exact o.elim
    | exc c fs G1 h1 =>
      rw [em] at o
      refine out_finX r ?_
      have o : OutE K mg (fun c dd _ H => E c dd H) w [] Q (finX h.length h c fs h1) := o
      unfold finX at o
      rw [← r.len] at o
      split at o
      · rename_i q
        exact ⟨fun _ => o, fun z => absurd q z⟩
      · rename_i q
        split at o
        · rename_i cc
          exact ⟨fun z => absurd z q, fun _ => ⟨cc.1, cc.2, o⟩⟩
        · exact o.elim
  · exact o.elim
theorem fn_ok {x qual : Str} {st : Stmt} {f : Addr} {fd : FuncData} {N ps : List Str} {k : Nat} (F : Fun K x qual st f fd) (S : FnScope N ps (defScope st)) (m : Ms)
    (hb : ∀ (cdv : Value) (A : Around) (outer : List PySem.Env) (s : Shared) (H : Hp) (E : XK), Room k (A.deeper (envOfC qual (defScope st) s.heap.objs.size f cdv)) →
      PSs (cxOf (L2.CX P w) P w K mg base N qual (defScope st) f cdv A outer s H E) (defBody st) (tS K mg (fun c dd _ H => E c dd H) m)) :
    FnOk P w K mg base (L2.CX P w) (k + 1) f fd ps (spM K mg (mDef ps.length N.length m)) :=
  F.okX S (fun vs H Q E h => sp_len h) fun cdv A outer s H vs Q E hr h => ⟨_, hb cdv A outer s H E hr, sp_start h⟩
open Classical in
theorem fn_okL {x qual : Str} {st : Stmt} {f : Addr} {fd : FuncData} {N ps : List Str} {k : Nat} (F : Fun K x qual st f fd) (S : FnScope N ps (defScope st)) (m : Ms)
    (hb : ∀ (cdv : Value) (A : Around) (outer : List PySem.Env) (s : Shared) (H : Hp) (E : XK), Room k (A.deeper (envOfC qual (defScope st) s.heap.objs.size f cdv)) →
      PSs (cxOf (L2.CX P w) P w K mg base N qual (defScope st) f cdv A outer s H E) (defBody st) (tS K mg (fun c dd _ H => E c dd H) m)) :
    FnOk P w K mg base (L2.CX P w) (k + 1) f fd ps (spL K mg (mDefL ps.length N.length m)) := by
  refine F.okX S (fun vs H Q E h => ?_) fun cdv A outer s H vs Q E hr h => ⟨_, hb cdv A outer s H E hr, ?_⟩
  · obtain ⟨w, ds, h, ra, r, o⟩ := h
    unfold mDefL at o
    split at o
    · rename_i e
      rw [ra.length]
      exact e
    · exact o.elim
  · obtain ⟨w, ds, h, ra, r, o⟩ := h
    unfold mDefL at o
    split at o
    · rename_i e
      refine ⟨w, _, h, start_rep ra, r, ?_⟩
      rw [e]
      cases em : m (ds.map some ++ List.replicate (N.length - ps.length) none) h with
      | next G1 h1 => rw [em] at o; exact o.elim
      | ret d h1 =>
        rw [em] at o
        intro v w1 H1 l r1 rv
        have o : OutF K mg (fun c dd _ H => E c dd H) w [] Q (finL h.length h d h1) := o
        cases rv with
        | @loc k _ =>
          have o : OutF K mg (fun c dd _ H => E c dd H) w [] Q (match h1[k]? with
            | some (.lst ds) => if h.length ≤ k ∧ underL h.length ds = true ∧ OkCells h.length h h1 then .ok ds (h1.take h.length) else .stuck
            | _ => .stuck) := o
          split at o
          · rename_i es eh
            split at o
            · rename_i c
              rw [← r.len] at o c
              obtain ⟨r2, l2⟩ := RepH.cut r l r1 c.2.2
              obtain ⟨a, xs, e1, ra1⟩ := r1.cell k _ eh
              have hk : k < w1.N := by
                rw [r1.len]
                exact (List.getElem?_eq_some_iff.mp eh).1
              refine o (w1.mu k) xs (w1.cut w.N) H1 l2 r2 ⟨a, fun n hn z => ?_, ?_⟩ e1 (RepAll.lower es xs ra1 c.2.1)
              · have hn : n < w.N := hn
                have := r1.inj n k (Nat.lt_of_lt_of_le hn l.n) hk z
                omega
              · cases q : w1.F (w1.mu k) with
                | none => exact q
                | some u => exact absurd rfl ((r1.dis _ u q).2 k hk)
            · exact o.elim
          · exact o.elim
        | _ => exact o.elim
      | brk G1 h1 => rw [em] at o; exact o.elim
      | cont G1 h1 => rw [em] at o; exact o.elim
      | stuck => rw [em] at o; exact o.elim
      | exc c fs G1 h1 =>
        rw [em] at o
        refine out_finX r ?_
        have o : OutF K mg (fun c dd _ H => E c dd H) w [] Q (finX h.length h c fs h1) := o
        unfold finX at o
        rw [← r.len] at o
        split at o
        · rename_i q
          exact ⟨fun _ => o, fun z => absurd q z⟩
        · rename_i q
          split at o
          · rename_i cc
            exact ⟨fun z => absurd z q, fun _ => ⟨cc.1, cc.2, o⟩⟩
          · exact o.elim
    · exact o.elim
end

/-! ### calls -/
section
variable {X : Cx} {W : WX} {pos p : Pos} {e : Expr} {es : List Expr} {as : MeL} {x : Str} {k k' : Nat} {f : Addr} {fd : FuncData} {ps : List Str} {m : Fn} {ml : FnL} {ma mb : Me}
theorem e_call (F : FnOk X.prog X.w X.K X.mg X.base (L2.CX X.prog X.w) k f fd ps (spM X.K X.mg m)) (hr : Room k' X.A) (hk' : k ≤ k') (tk : Takes X W) (hm : X.mg x = some (.ref f)) (hk : PySem.W.keepIn X.K (.ref f) = true) (hb : Binds X.K fd ps [])
    (ha : PA X (e :: es) (TAr X W as)) (hg : Gl X x := by rfl) (hdb : (x == ("__debug__" : Str)) = false := by decide) (he : starEach (e :: es) X.env = (false, eval e X.env) :: starEach es X.env := by rfl) (hpl : (backTo pos (starEach es X.env)).any (·.1) = false := by rfl) :
    PE X (.Call (.Name x p) (e :: es) [] pos) (TM X W (mN m as)) := by
  refine (pe_callS F (hr.mono hk') hg hm hk hb (fun σ => passAt tk σ) ha hdb he hpl).wk fun σ H Q ⟨w, G, h, g, r, o⟩ => ⟨w, G, h, g, r, o.bindA fun ds h1 vs w1 H1 l r1 x o1 => ⟨w1, ds, h1, x, r1, ?_⟩⟩
  cases em : m ds h1 with
  | ok d h2 => rw [em] at o1; exact o1
  | exc c fs h2 => rw [em] at o1; exact o1
  | stuck => rw [em] at o1; exact o1
theorem f_call (F : FnOk X.prog X.w X.K X.mg X.base (L2.CX X.prog X.w) k f fd ps (spL X.K X.mg ml)) (hr : Room k' X.A) (hk' : k ≤ k') (tk : Takes X W) (hm : X.mg x = some (.ref f)) (hk : PySem.W.keepIn X.K (.ref f) = true) (hb : Binds X.K fd ps [])
    (ha : PA X (e :: es) (TAr X W as)) (hg : Gl X x := by rfl) (hdb : (x == ("__debug__" : Str)) = false := by decide) (he : starEach (e :: es) X.env = (false, eval e X.env) :: starEach es X.env := by rfl) (hpl : (backTo pos (starEach es X.env)).any (·.1) = false := by rfl) :
    PE X (.Call (.Name x p) (e :: es) [] pos) (TF X W (lN ml as)) := by
  refine (pe_callS F (hr.mono hk') hg hm hk hb (fun σ => passAt tk σ) ha hdb he hpl).wk fun σ H Q ⟨w, G, h, g, r, o⟩ => ⟨w, G, h, g, r, OutF.bindA (m := as) o fun ds h1 vs w1 H1 l r1 x o1 => ⟨w1, ds, h1, x, r1, ?_⟩⟩
  cases em : ml ds h1 with
  | ok d h2 => rw [em] at o1; exact o1
  | exc c fs h2 => rw [em] at o1; exact o1
  | stuck => rw [em] at o1; exact o1

/-! ### the machine's lists, changed -/
/-- o.m(e, ..) of a list -/
noncomputable def mBM (f : D → List D → AH → Res D) (o : Me) (as : MeL) : Me := fun G h => (o G h).bind fun d h1 => match vL h1 d with
  | some _ => (as G h1).bind fun xs h2 => f d xs h2
  | none => .stuck
noncomputable def FolM (X : Cx) (W : WX) (f : D → List D → AH → Res D) (r : V → List V → Hp → VK → Prop) : Prop := ∀ (w : Wd) (h : AH) (H : Hp) (σ : L2.St) (Q : VK) (v : V) (d : D) (vs : List V) (ds : List D),
  RepH X.K w H h → Rv X.K w v d → Ra X.K w vs ds → OutE X.K X.mg W w σ Q (f d ds h) → r v vs H Q
variable {o : Expr} {name : Str} {apos cpos : Pos} {bid : String} {r : V → List V → Hp → VK → Prop} {fm : D → List D → AH → Res D}
theorem tyV_L {w : Wd} {H : Hp} {h : AH} {v : V} {d : D} {ds : List D} (rh : RepH X.K w H h) (rv : Rv X.K w v d) (e : vL h d = some ds) : tyV X.K "list" v H := by
  obtain ⟨a, xs, rfl, sq, _⟩ := vL_rep rh rv e
  exact .inl ⟨rfl, xs, sq⟩
theorem e_bm (slot : Slot "list" name bid) (hty : typeOf (.builtin bid) = pure (.type "method_descriptor")) (hm : MtR X bid r) (hf : FolM X W fm r) (ho : PE X o (TM X W ma)) (ha : PA X (e :: es) (TAr X W as))
    (hbase : attributeBase o name X.env (eval o X.env) = eval o X.env := by rfl)
    (hfew : ((backTo cpos (starEach (e :: es) X.env)).all (fun x => !x.1) && (backToKw cpos (keywordEach [] X.env)).all (fun x => x.1.isSome)
      && decide ((e :: es).length + ([] : List Keyword).length + (if ([] : List Keyword).isEmpty then 0 else 1) < 30)) = true := by rfl)
    (hline : (apos.endLine == cpos.line) = true := by rfl) (hs : starEach (e :: es) X.env = (false, eval e X.env) :: starEach es X.env := by rfl) (hplain : (backTo cpos (starEach es X.env)).any (·.1) = false := by rfl) :
    PE X (.Call (.Attribute o name apos) (e :: es) [] cpos) (TM X W (mBM fm ma as)) := by
  refine (pe_bm PySem.F.plainAttrs_list slot hty hm ho ha hbase hfew hline hs hplain).wk fun σ H Q ⟨w, G, h, g, r, o⟩ => ⟨w, G, h, g, r, o.bindE fun d h1 v w1 H1 l r1 x o1 => ?_⟩
  split at o1
  · rename_i ds0 e0
    exact ⟨tyV_L r1 x e0, w1, G, h1, g.mono l, r1, OutE.bindA (m := as) o1 fun ds h2 vs w2 H2 l2 r2 xs o2 => hf w2 h2 H2 σ Q v d vs ds r2 (Rv_mono l2 x) xs o2⟩
  · exact o1.elim
noncomputable def fApp (d : D) (xs : List D) (h : AH) : Res D := match d, xs with
  | .loc n, [y] => match h[n]? with
    | some (.lst ds) => if ds.length < big then .ok .non (h.set n (.lst (ds ++ [y]))) else .stuck
    | _ => .stuck
  | _, _ => .stuck
noncomputable def fExt (d : D) (xs : List D) (h : AH) : Res D := match d, xs with
  | .loc n, [y] => match h[n]? with
    | some (.lst ds) => match vR h y with
      | some es => if ds.length + es.length ≤ big then .ok .non (h.set n (.lst (ds ++ es))) else .stuck
      | none => .stuck
    | _ => .stuck
  | _, _ => .stuck
/-- the object at n has a new content -/
theorem out_set {w : Wd} {σ : L2.St} {H : Hp} {Q : VK} {d : D} {h : AH} {v : V} {n : Nat} {xs : List V} {ds : List D} (hn : n < w.N) (o : OutE X.K X.mg W w σ Q (.ok d (h.set n (.lst ds)))) (r : RepH X.K w H h) (rv : Rv X.K w v d) (ra : Ra X.K w xs ds) : Q v (upd H (w.mu n) (.lst xs)) :=
  o v w _ (Le.refl _) (r.set hn ⟨xs, upd_same, ra⟩) rv
theorem fol_app : FolM X W fApp rAppend := by
  intro w h H σ Q v d vs ds rh rv ra o
  unfold fApp at o
  split at o
  · rename_i n y
    split at o
    · rename_i es e
      split at o
      · rename_i c
        cases rv with
        | loc hn =>
          obtain ⟨u, rfl, ru⟩ := ra_one ra
          obtain ⟨_, xs, e1, rx⟩ := rh.cell n _ e
          exact ⟨w.mu n, xs, u, rfl, rfl, e1, big_lt (by rw [rx.length]; exact c), out_set hn o rh .non (rx.append (.cons ru .nil))⟩
      · exact o.elim
    · exact o.elim
  · exact o.elim
noncomputable def rExt3 : V → List V → Hp → VK → Prop := fun x vs H Q => ∃ l b xs zs, x = .ref l ∧ vs = [.ref b] ∧ H l = some (.lst xs) ∧ Rd H b (.lst zs) ∧ xs.length + zs.length ≤ sizeLine ∧ Q .non (upd H l (.lst (xs ++ zs)))
theorem e_app (ho : PE X o (TM X W ma)) (ha : PA X [e] (TAr X W as))
    (hbase : attributeBase o "append" X.env (eval o X.env) = eval o X.env := by rfl)
    (hfew : ((backTo cpos (starEach [e] X.env)).all (fun x => !x.1) && (backToKw cpos (keywordEach [] X.env)).all (fun x => x.1.isSome)
      && decide (([e] : List Expr).length + ([] : List Keyword).length + (if ([] : List Keyword).isEmpty then 0 else 1) < 30)) = true := by rfl)
    (hline : (apos.endLine == cpos.line) = true := by rfl) (hs : starEach [e] X.env = (false, eval e X.env) :: starEach [] X.env := by rfl) (hplain : (backTo cpos (starEach [] X.env)).any (·.1) = false := by rfl) :
    PE X (.Call (.Attribute o "append" apos) [e] [] cpos) (TM X W (mBM fApp ma as)) :=
  e_bm PySem.F.slot_list_append PySem.F.type_list_append mt_append fol_app ho ha hbase hfew hline hs hplain
/-! o[i] = v of a list -/
noncomputable def sSub (o i v : Me) : Ms := fun G h => (v G h).toS G fun x h1 => (o G h1).toS G fun d h2 => (i G h2).toS G fun j h3 => match d, j with
  | .loc n, .int k => match h3[n]? with
    | some (.lst ds) => match ixN ds.length k with
      | some m => .next G (h3.set n (.lst (ds.set m x)))
      | none => .stuck
    | _ => .stuck
  | _, _ => .stuck
theorem s_sub {i : Expr} {mv mo mi : Me} {tpos : Pos} {ev : Expr} (hv : PE X ev (TM X W mv)) (ho : PE X o (TM X W mo)) (hi : PE X i (TM X W mi))
    (hs : swapsWithSole [.Subscript o i tpos] ev pos.line X.env = pure false := by rfl) (hw : swappedStores [.Subscript o i tpos] ev X.env = pure none := by rfl)
    (h1 : (assignEach [.Subscript o i tpos] X.env).map (·.2) = [assign (.Subscript o i tpos) X.env] := by rfl)
    (ha : ∀ v, assign (.Subscript o i tpos) X.env v = (do
      let ov ← holding [v] (eval o X.env)
      let iv ← holding [v, ov] (eval i X.env)
      standAt tpos
      holding [v, ov, iv] (setItem ov iv v)
      release [v, ov, iv] []) := by intro _; rfl) : PS X (.Assign [.Subscript o i tpos] ev pos) (TSS X W (sSub mo mi mv)) := by
  refine (ps_asg hv (pg_sub ho hi set_list ha) hs hw h1).wk fun D σ H ⟨w, G, h, g, r, o⟩ => ⟨w, G, h, g, r, OutS.bindE (m := mv) g o fun x h1 v w1 H1 l1 r1 rx o1 => ?_⟩
  have g1 := g.mono l1
  refine ⟨w1, G, h1, g1, r1, OutS.bindE (m := mo) g1 o1 fun d h2 v2 w2 H2 l2 r2 rd o2 => ?_⟩
  have g2 := g1.mono l2
  refine ⟨w2, G, h2, g2, r2, OutS.bindE (m := mi) g2 o2 fun j h3 v3 w3 H3 l3 r3 rj o3 => ?_⟩
  split at o3
  · rename_i n k
    split at o3
    · rename_i ds e
      split at o3
      · rename_i m em
        cases rj
        cases rd with
        | loc hn =>
          obtain ⟨_, xs, e1, rxs⟩ := r3.cell n _ e
          have hn3 : n < w3.N := Nat.lt_of_lt_of_le hn l3.n
          have emu : w3.mu n = w2.mu n := l3.mu n hn
          rw [← emu]
          refine ⟨w3.mu n, xs, k, m, rfl, rfl, e1, by rw [rxs.length]; exact em, ?_⟩
          exact o3 σ w3 _ (Le.refl _) (g2.mono l3) (r3.set hn3 ⟨xs.set m v, upd_same, RepAll.set (Rv_mono (l2.trans l3) rx) m rxs⟩)
      · exact o3.elim
    · exact o3.elim
  · exact o3.elim
/-! raise C() of an own class -/
noncomputable def sRaise (c : Str) : Ms := fun G h => .exc c [] G h
end
end AB
/-! AB: order over data, sorted. -/
namespace AB
open PySem PySem.Spec PyProof.Rows L2

/-! ### sorted of tuples, empty ones among them -/
section
variable {prog : Program} {w : World} {A : Around} {E : Value → Shared → Prop} {s : Shared}
end
end AB
/-! AB: sorted, order, index, extend, walks of pairs. -/
namespace AB
open PySem PySem.Spec PyProof.Rows L2

/-! ### sorted of a list -/
noncomputable def isNonP : PyData → Bool
  | .none => true
  | _ => false
theorem vals_of {R : Value → β → Prop} {f : β → V} (hR : ∀ u z, R u z → RelV (f z) u) : ∀ {zs : List β} {us : List Value}, PySem.W.EachIs R us zs → Vals (zs.map f) us
  | _, _, .nil => .nil
  | _, _, .cons r t => .cons (hR _ _ r) (vals_of hR t)
section
variable {X : Cx}
end
section
variable {X : Cx} {W : WX} {pos p : Pos} {e : Expr} {es : List Expr} {as : MeL} {ma mb : Me}
/-! ### < of data -/
noncomputable def lrD (h : AH) (x y : D) : Option (PyData × PyData) := match okP h x, okP h y with
  | some p, some q => if PySem.W.alike p q = true ∧ isNonP p = false then some (p, q) else none
  | _, _ => none
noncomputable def fLtD (x y : D) (h : AH) : Res D := match lrD h x y with
  | some (p, q) => .ok (.bl (PySem.W.dataLt p q)) h
  | none => .stuck
noncomputable def fGtD (x y : D) (h : AH) : Res D := match lrD h x y with
  | some (p, q) => .ok (.bl (PySem.W.dataLt q p)) h
  | none => .stuck
noncomputable def fLeD (x y : D) (h : AH) : Res D := match lrD h x y with
  | some (p, q) => .ok (.bl (!PySem.W.dataLt q p)) h
  | none => .stuck
noncomputable def fGeD (x y : D) (h : AH) : Res D := match lrD h x y with
  | some (p, q) => .ok (.bl (!PySem.W.dataLt p q)) h
  | none => .stuck
noncomputable def rLtD (K : PySem.W.Frag) (f : PyData → PyData → Bool) : R2 := fun x y H Q => ∃ d e, Dp K H x d ∧ Dp K H y e ∧ PySem.W.alike d e = true ∧ d ≠ .none ∧ d.depth ≤ 64 ∧ Q (.bl (f d e)) H
theorem room_min {A : Around} {d e : PyData} (h : d.depth ≤ 64) (hu : A.units + 65 < cLine) : A.units + min d.depth e.depth < cLine := by
  have := Nat.min_le_left d.depth e.depth
  omega
theorem op_ltD (hu : X.A.units + 65 < cLine) : OpR X (compareOp .Lt) (rLtD X.K fun d e => PySem.W.dataLt d e) := by
  intro pins s σ H x y v u Q I rx ry h
  obtain ⟨d, e, hd, he, ha, hn, hdep, q⟩ := h
  obtain ⟨as, r1⟩ := Dp.reads I d x v hd rx
  obtain ⟨bs, r2⟩ := Dp.reads I e y u he ry
  exact PySem.W.lt_data r1 r2 ha hn (room_min hdep hu) ⟨.bl _, H, I, rfl, q⟩
theorem op_gtD (hu : X.A.units + 65 < cLine) : OpR X (compareOp .Gt) (rLtD X.K fun d e => PySem.W.dataLt e d) := by
  intro pins s σ H x y v u Q I rx ry h
  obtain ⟨d, e, hd, he, ha, hn, hdep, q⟩ := h
  obtain ⟨as, r1⟩ := Dp.reads I d x v hd rx
  obtain ⟨bs, r2⟩ := Dp.reads I e y u he ry
  exact PySem.W.gt_data r1 r2 ha hn (room_min hdep hu) ⟨.bl _, H, I, rfl, q⟩
theorem op_leD (hu : X.A.units + 65 < cLine) : OpR X (compareOp .LtE) (rLtD X.K fun d e => !PySem.W.dataLt e d) := by
  intro pins s σ H x y v u Q I rx ry h
  obtain ⟨d, e, hd, he, ha, hn, hdep, q⟩ := h
  obtain ⟨as, r1⟩ := Dp.reads I d x v hd rx
  obtain ⟨bs, r2⟩ := Dp.reads I e y u he ry
  exact PySem.W.le_data r1 r2 ha hn (room_min hdep hu) ⟨.bl _, H, I, rfl, q⟩
theorem op_geD (hu : X.A.units + 65 < cLine) : OpR X (compareOp .GtE) (rLtD X.K fun d e => !PySem.W.dataLt d e) := by
  intro pins s σ H x y v u Q I rx ry h
  obtain ⟨d, e, hd, he, ha, hn, hdep, q⟩ := h
  obtain ⟨as, r1⟩ := Dp.reads I d x v hd rx
  obtain ⟨bs, r2⟩ := Dp.reads I e y u he ry
  exact PySem.W.ge_data r1 r2 ha hn (room_min hdep hu) ⟨.bl _, H, I, rfl, q⟩
theorem fol_ltD {f : PyData → PyData → Bool} {g : D → D → AH → Res D} (hg : ∀ x y h, g x y h = match lrD h x y with
  | some (p, q) => .ok (.bl (f p q)) h
  | none => .stuck) : Fol2 X W g (rLtD X.K f) := by
  intro w h H σ Q v1 v2 d1 d2 rh r1 r2 o
  rw [hg] at o
  split at o
  · rename_i p q e
    unfold lrD at e
    split at e
    · rename_i p' q' e1 e2
      split at e
      · rename_i c
        cases e
        obtain ⟨a1, a2⟩ := okP_some e1
        obtain ⟨b1, b2⟩ := okP_some e2
        exact ⟨_, _, toPh_rep rh r1 a1, toPh_rep rh r2 b1, c.1, fun z => by rw [z] at c; exact absurd c.2 (by decide), SeqAt.depth_of_shaped a2, out_ok o rh (.bl _)⟩
      · cases e
    · cases e
  · exact o.elim
end
end AB
/-! AB: enumerate of lists and tuples. -/
namespace AB
open PySem PySem.Spec PyProof.Rows L2
open Sem (wp)

set_option maxHeartbeats 4000000 in
theorem meets_enumerate_new1 {v : Value} {o : Obj} {H : Heap → Prop} (B : Begins v o H) :
    Meets (Builtin.«enumerate.__new__» ⟨[.type "enumerate", v], []⟩) (fun _ R s => H s.heap ∧
      R (.ok (.ret (.ref (s.heap.push o).objs.size))) { s with heap := (s.heap.push o).push { cls := .type "enumerate", data := .fields #[.none, .bool false, .ref s.heap.objs.size, rawInt 0, .none, .none] } }) :=
  .of_wp fun prog w A R s h => by
    obtain ⟨hp, g, d, tk, os⟩ := s; obtain ⟨h1, h⟩ := h
    have hsub := sub_enumerate
    have q1 : ∀ {A' : Around} {E : Value → Shared → Prop} {Q : Value → Shared → Prop}, Q (.ref hp.objs.size) ⟨hp.push o, g, d, tk, os⟩ → wpAny (model prog w) A' (pyIter v) Q E ⟨hp, g, d, tk, os⟩ :=
      fun q => B.iter prog w _ _ ⟨hp, g, d, tk, os⟩ _ h1 q
    wp_walk using q1
    refine wpAny_stack_any fun st => wpAny_pure ?_
    split
    · rename_i c _ _ _ _ _
      cases (c == Value.type "enumerate")
      · wp_walk using q1
        exact ⟨_, rfl, h⟩
      · wp_walk using q1
        exact ⟨_, rfl, h⟩
    · wp_walk using q1
      exact ⟨_, rfl, h⟩
section
variable {prog : Program} {w : World} {A : Around} {E : Value → Shared → Prop} {s : Shared}
theorem enum_begins1 {v : Value} {o : Obj} {H : Heap → Prop} {Q : Value → Shared → Prop} (B : Begins v o H) (h1 : H s.heap)
    (h : ∀ h', IsEnum h' (s.heap.objs.size + 1) s.heap.objs.size 0 .none → h'.get? s.heap.objs.size = some o → h'.objs.size = s.heap.objs.size + 2 →
      (∀ b o, s.heap.get? b = some o → h'.get? b = some o) → Q (.ref (s.heap.objs.size + 1)) { s with heap := h' }) :
    wpAny (model prog w) A (call (.type "enumerate") [v]) Q E s := by
  refine callType_new F.called_enumerate (by decide) (F.typeCall_enumerate_1 _) (F.newCall_enumerate_1 _) (fun obj => F.args_object_init_2 obj _) F.entry_enumerate_new
    (meets_enumerate_new1 B) ⟨h1, ?_⟩
  have hz : (s.heap.push o).objs.size = s.heap.objs.size + 1 := Heap.size_push ..
  show _ ∧ _
  rw [hz]
  have he : IsEnum ((s.heap.push o).push { cls := .type "enumerate", data := .fields #[.none, .bool false, .ref s.heap.objs.size, rawInt 0, .none, .none] }) (s.heap.objs.size + 1) s.heap.objs.size 0 .none := by
    have := Heap.get?_push_size (s.heap.push o) (o := { cls := .type "enumerate", data := .fields #[.none, .bool false, .ref s.heap.objs.size, rawInt 0, .none, .none] }) rfl
    rw [hz] at this; exact this
  refine ⟨⟨_, he, rfl⟩, h _ he (Heap.get?_push_of_some _ (Heap.get?_push_size _ B.free)) (by rw [Heap.size_push, hz]) fun b o x => Heap.get?_push_of_some _ (Heap.get?_push_of_some _ x)⟩
end

/-- the tuple at a as it stands at each turn, each item in a new pair -/
noncomputable def IteT (K : PySem.W.Frag) (a : Addr) : It :=
  ⟨fun i H => ∃ (xs : List V) (x : V), SqT K H a xs ∧ xs[i]? = some x, fun i H v H' => ∃ T x, v = .ref T ∧ H T = none ∧ H' = upd H T (.tup [.int (i : Nat), x]) ∧ ∀ xs, SqT K H a xs → xs[i]? = some x, fun i H => ∃ xs : List V, SqT K H a xs ∧ xs.length ≤ i⟩
theorem turn_enumT {P : Program} {w : World} {K : PySem.W.Frag} {elts : List Expr} {kk : Nat} {tpos : Pos} (a e it : Addr) :
    Turn P w K (.Tuple elts kk tpos) (IteT K a) [e, it] e (fun i h => (∃ old, IsEnum h e it ((i : Nat) : Int) old) ∧ h.IsTupleIter it a i ∧ e ≠ it ∧ a ≠ it ∧ a ≠ e) where
  mem := by simp
  obj := fun i h st b hb => by
    obtain ⟨⟨old, he⟩, ⟨o, ho, hc, hd⟩, _⟩ := st
    have e' : b = e ∨ b = it := by simpa using hb
    rcases e' with z | z
    · rw [z]; exact ⟨_, he, fun v q => nomatch q⟩
    · rw [z]; exact ⟨o, ho, fun v q => by rw [hd] at q; cases q⟩
  keep := fun i h h' st k => let ⟨⟨old, he⟩, hi, hne⟩ := st; ⟨⟨old, k e (by simp) _ he⟩, hi.at fun o q => k it (by simp) o q, hne⟩
  item := by
    intro X hP hw hK hc i pins s σ H E I hf st hg
    subst hP hw hK
    obtain ⟨⟨old, he⟩, hit, hne, hai, hae⟩ := st
    obtain ⟨xs, x, hq, hx⟩ := hg
    obtain ⟨its, rv, p, hz⟩ := I.tuple hq
    obtain ⟨u, hu, ru⟩ := rv.get hx
    have hel : e < s.heap.objs.size := Heap.lt_size he
    have hil : it < s.heap.objs.size := by obtain ⟨_, q, _⟩ := hit; exact Heap.lt_size q
    have hlt : i < its.toArray.size := by
      rw [List.size_toArray]
      exact (List.getElem?_eq_some_iff.mp hu).1
    refine wpAny_pyNext_enum_itemD (Draws.tuple (A := X.A.in1) (I.ok.hd hc) it a hai its.toArray) he ⟨hit, p⟩ hlt hne (by simp [hne, Ne.symm hae]) fun y h' tk hy ho hst hT hsz hk => ?_
    have ey : y = u := by
      have hy : its.toArray[i]? = some y := hy
      have hu' : its.toArray[i]? = some u := by simpa using hu
      rw [hu'] at hy
      exact (Option.some.inj hy).symm
    subst ey
    refine ⟨_, rfl, wpAny_letOwnedTupleGo_enum (s := { s with heap := h', toks := tk + 1 }) ho fun h'' he' sb => ?_⟩
    have hT2 : h''.get? s.heap.objs.size = some { cls := .type "tuple", data := .seq #[.int i tk, y] } := (sb.2 _ (Nat.ne_of_gt hel)).trans hT
    have new : ObjOk X.prog X.w (upd H s.heap.objs.size (.tup [.int (i : Nat), x])) h'' s.heap.objs.size (.tup [.int (i : Nat), x]) :=
      ⟨by show 2 ≤ sizeLine; decide, [.int i tk, y], .cons ⟨_, rfl⟩ (.cons ru .nil), ⟨_, hT2, rfl, _, rfl⟩⟩
    have I1 : Inv X pins σ (upd H s.heap.objs.size (.tup [.int (i : Nat), x])) { s with heap := h'', toks := tk + 1 } :=
      I.turnedNew (ch := [e, it]) (fun b ob hb q => (sb.2 b (fun z => hb (by simp [z]))).trans (hk b ob (fun z => hb (by simp [z])) (fun z => hb (by simp [z])) q)) hf (Nat.le_refl _) new
    refine ⟨.ref s.heap.objs.size, _, I1, rfl, ⟨_, x, rfl, I.hok.fresh (Nat.le_refl _), rfl, fun ys hy => by rw [I.tuple_inj hy hq]; exact hx⟩, ⟨⟨y, ?_⟩, hst.1.at fun o q => (sb.2 it (Ne.symm hne)).trans q, hne, hai, hae⟩, fun b hb => ?_⟩
    · have e1 : ((i + 1 : Nat) : Int) = (i : Int) + 1 := by omega
      rw [e1]; exact he'
    · have hb' : b < s.heap.objs.size := by
        have e' : b = e ∨ b = it := by simpa using hb
        rcases e' with z | z
        · rw [z]; exact hel
        · rw [z]; exact hil
      rw [upd_ne (Nat.ne_of_lt hb')]
      exact (hf b hb).1
  done := by
    intro X hP hw hK hc i pins s σ H E I hf st hg
    subst hP hw hK
    obtain ⟨⟨old, he⟩, hit, hne, hai, hae⟩ := st
    obtain ⟨xs, hq, hx⟩ := hg
    obtain ⟨its, rv, p, hz⟩ := I.tuple hq
    obtain ⟨f0, f1, f2, f3, f4, f5⟩ := hf it (by simp)
    have hl := rv.length
    have hsize : its.toArray.size ≤ i := by rw [List.size_toArray]; omega
    obtain ⟨T, hT⟩ : ∃ T : Array Value, T.size = i ∧ True := ⟨Array.replicate i .none, by simp, trivial⟩
    unfold pyNext
    have hTy : s.TypeIs (.ref e) "enumerate" := ⟨_, he, rfl⟩
    refine wpAny_bind (wpAny_attempt (wpAny_callSpecial?_slot (name := Str.ofString "__next__") hTy F.slot_enumerate_next
      (wpAny_call_entry F.slot_enumerate_next hTy F.entry_enumerate_next ?_ (F.args_enumerate_next_1 _))))
    show wpAny _ _ (field (.ref e) 2 >>= _) _ _ _
    refine wpAny_bind (wpAny_field he rfl (x := .ref it) rfl ?_)
    refine wpAny_bind (wpAny_nextOf_tuple_end (A := X.A.in1) (I.ok.hd hc) hit p (by simpa using hsize) fun h' x he' hx' => ?_)
    obtain ⟨o, ho, hc'⟩ := hx'
    refine wpAny_bind (wpAny_isInstance (T := "StopIteration") (b := true) ⟨o, ho, hc'⟩ isSubtype_stop ?_)
    exact wpAny_pure ⟨rfl, I.turned (t' := s.toks) (fun b o hb q => he' b o hb q) f0 f1 f3 f4 f5⟩
  self := fun A i s Q E st h => let ⟨⟨_, he⟩, _⟩ := st; wpAny_pyIter_enum he h
noncomputable def iEnumA (K : PySem.W.Frag) (ta : TA) : TI := fun σ H R => ta σ H fun vs H1 => ∃ a xs, vs = [.ref a] ∧ ((SqL K H1 a xs ∧ R (Ite K a) H1) ∨ (SqT K H1 a xs ∧ R (IteT K a) H1))
theorem pi_enumA {X : Cx} {e : Expr} {ta : TA} {p pos tpos : Pos} {elts : List Expr} {kk : Nat} (hg : Gl X "enumerate") (hm : X.mg "enumerate" = none) (ha : PA X [e] ta) (hs : starEach [e] X.env = [(false, eval e X.env)] := by rfl) :
    PI X (.Tuple elts kk tpos) (.Call (.Name "enumerate" p) [e] [] pos) (iEnumA X.K ta) := by
  refine ⟨fun pins s σ H R I h => ?_⟩
  refine Call_ (ld_blt I hg hm boot_enumerate (PyProof.Rows.callWith_type1 (thn (ha.run pos pins s σ H _ I h) fun us s1 ⟨vs, H1, I1, r1, q1⟩ => ?_) hs rfl))
  obtain ⟨a, xs, ex, q1⟩ := q1
  subst ex
  cases r1 with
  | cons r rr =>
    cases rr
    cases r
    have fresh2 : ∀ b, b ∈ [s1.heap.objs.size + 1, s1.heap.objs.size] → FpOk X pins H1 b := fun b hb => by
      have e' : b = s1.heap.objs.size + 1 ∨ b = s1.heap.objs.size := by simpa using hb
      have hle : s1.heap.objs.size ≤ b := by
        rcases e' with z | z
        · rw [z]; exact Nat.le_add_right _ _
        · rw [z]; exact Nat.le_refl _
      exact I1.fpOk hle (I1.hok.fresh hle)
    rcases q1 with ⟨hq, q⟩ | ⟨hq, q⟩
    · obtain ⟨its, rv, p', hz⟩ := I1.list hq
      refine call_enumerate_list p'.isList fun h' he hit hsz hk => wpAny_pyIter_enum he ?_
      have I2 : Inv X pins σ H1 { s1 with heap := h' } := I1.kept (t' := s1.toks) hk
      exact ⟨s1.heap.objs.size + 1, [s1.heap.objs.size + 1, s1.heap.objs.size], _, _, H1, rfl, I2, turn_enum a (s1.heap.objs.size + 1) s1.heap.objs.size, ⟨⟨.none, he⟩, hit, Nat.succ_ne_self _⟩, fresh2, q⟩
    · obtain ⟨its, rv, p', hz⟩ := I1.tuple hq
      have hal : a < s1.heap.objs.size := by
        obtain ⟨o, ho, _⟩ := p'
        exact Heap.lt_size ho
      refine enum_begins1 (begins_tuple a its.toArray) p' fun h' he hit hsz hk => wpAny_pyIter_enum he ?_
      have I2 : Inv X pins σ H1 { s1 with heap := h' } := I1.kept (t' := s1.toks) hk
      exact ⟨s1.heap.objs.size + 1, [s1.heap.objs.size + 1, s1.heap.objs.size], _, _, H1, rfl, I2, turn_enumT a (s1.heap.objs.size + 1) s1.heap.objs.size, ⟨⟨.none, he⟩, ⟨_, hit, rfl, rfl⟩, Nat.succ_ne_self _, Nat.ne_of_lt hal, Nat.ne_of_lt (Nat.lt_succ_of_lt hal)⟩, fresh2, q⟩
end AB
/-! AB: walks of pairs, ranges down, extend. -/
namespace AB
open PySem PySem.Spec PyProof.Rows L2

section
variable {X : Cx} {W : WX} {tg e e2 a b c : Expr} {as : MeL} {p pos tpos : Pos} {elts : List Expr} {kk : Nat} {K : PySem.W.Frag}
noncomputable def pairsD (as bs : List D) : List D := (as.zip bs).map fun p => D.tup [p.1, p.2]
noncomputable def enumD (ds : List D) : List D := pairsD (rangeD 0 ds.length) ds
/-- lists that are not changed -/
noncomputable def vI : D → Option (List D)
  | .lst ds => some ds
  | .rol ds => some ds
  | _ => none
theorem vI_rep {w : Wd} {v : V} {d : D} {ds : List D} (rv : Rv K w v d) (e : vI d = some ds) : ∃ a xs, v = .ref a ∧ SqL K w.S a xs ∧ Ra K w xs ds := by
  cases rv with
  | lst a b => cases e; exact ⟨_, _, rfl, .inl a, b⟩
  | rol a b => cases e; exact ⟨_, _, rfl, a, b⟩
  | _ => cases e
noncomputable def iZip (as : MeL) : Im := fun G h => (as G h).bind fun xs h1 => match xs with
  | [.tup ds, .tup es] => .ok (pairsD ds es, none) h1
  | [d, e] => match vI d, vI e with
    | some ds, some es => .ok (pairsD ds es, none) h1
    | _, _ => .stuck
  | _ => .stuck
theorem walk_zipT {a b : Addr} {xs ys : List V} : Walk (RZ.ItzT K a b) (min xs.length ys.length) (fun H => SqT K H a xs ∧ SqT K H b ys) (YPair (fun i => xs[i]?) (fun i => ys[i]?)) := by
  refine ⟨fun i _ hi q => ?_, fun _ q => ⟨xs, ys, q.1, q.2, by omega⟩, fun i H v H' _ q y => ?_⟩
  · have h1 : i < xs.length := by omega
    have h2 : i < ys.length := by omega
    exact ⟨xs, ys, xs[i], ys[i], q.1, q.2, by simp [h1], by simp [h2]⟩
  · obtain ⟨T, x, z, h1, h2, h3, h4, h5⟩ := y
    exact ⟨T, x, z, h1, h2, h3, h4 xs q.1, h5 ys q.2⟩
theorem i_zip (hm : X.mg "zip" = none) (ha : PA X [e, e2] (TAr X W as)) (hg : Gl X "zip" := by rfl)
    (hs : starEach [e, e2] X.env = (false, eval e X.env) :: starEach [e2] X.env := by rfl) (hpl : (backTo pos (starEach [e2] X.env)).any (·.1) = false := by rfl) :
    PI X (.Tuple elts kk tpos) (.Call (.Name "zip" p) [e, e2] [] pos) (tI X W (iZip as)) := by
  refine (RZ.pi_zipA hg hm ha hs hpl).wk fun σ H R ⟨w, G, h, g, r, o⟩ => ⟨w, G, h, g, r, OutI.bindA (as := as) o fun d h2 v w1 H1 em l r1 x o1 => ?_⟩
  split at o1
  · rename_i ds es
    obtain ⟨v, v2, rfl, rv, rv2⟩ := ra_two x
    cases rv with
    | @tup p1 xs _ a1 b1 =>
      cases rv2 with
      | @tup p2 ys _ a2 b2 =>
        exact ⟨p1, p2, xs, ys, rfl, .inr ⟨r1.ex.t a1, r1.ex.t a2, o1 _ w1 H1 (Le.refl _) r1 (Walks.zip b1 b2 fun w' H' h' l r => ⟨_, ⟨r.ex.t (l.ex.t a1), r.ex.t (l.ex.t a2)⟩, walk_zipT⟩)⟩⟩
  · split at o1
    · rename_i ds es e1 e2
      obtain ⟨v, v2, rfl, rv, rv2⟩ := ra_two x
      obtain ⟨p1, xs, rfl, a1, b1⟩ := vI_rep rv e1
      obtain ⟨p2, ys, rfl, a2, b2⟩ := vI_rep rv2 e2
      exact ⟨p1, p2, xs, ys, rfl, .inl ⟨r1.ex.l a1, r1.ex.l a2, o1 _ w1 H1 (Le.refl _) r1 (Walks.zip b1 b2 fun w' H' h' l r => ⟨_, ⟨r.ex.l (l.ex.l a1), r.ex.l (l.ex.l a2)⟩, walk_zip rfl⟩)⟩⟩
    · exact o1.elim
  · exact o1.elim
/-! enumerate -/
noncomputable def iEnum (as : MeL) : Im := fun G h => (as G h).bind fun xs h1 => match xs with
  | [.tup ds] => .ok (enumD ds, none) h1
  | [d] => match vI d with
    | some ds => .ok (enumD ds, none) h1
    | none => .stuck
  | _ => .stuck
theorem walk_enumT {a : Addr} {xs : List V} : Walk (IteT K a) xs.length (fun H => SqT K H a xs) (YPair (fun i => some (.int (i : Nat))) (fun i => xs[i]?)) := by
  refine ⟨fun i _ hi q => ⟨xs, xs[i], q, by simp [hi]⟩, fun _ q => ⟨xs, q, Nat.le_refl _⟩, fun i H v H' _ q y => ?_⟩
  obtain ⟨T, x, h1, h2, h3, h4⟩ := y
  exact ⟨T, .int (i : Nat), x, h1, h2, h3, rfl, h4 xs q⟩
/-- the numbers of a range as values -/
noncomputable def rangeV (n : Nat) : List V := (List.range n).map fun i : Nat => V.int (i : Int)
theorem rangeV_rep {w : Wd} : ∀ (ns : List Nat), Ra K w (ns.map fun i : Nat => V.int (i : Int)) (ns.map fun i : Nat => D.int (0 + (i : Int)))
  | [] => .nil
  | n :: ns => .cons (by show RepV K w.S w.mu w.N (V.int (n : Int)) (D.int (0 + (n : Int))); rw [Int.zero_add]; exact .int _) (rangeV_rep ns)
theorem rangeV_get {n i : Nat} (h : i < n) : (rangeV n)[i]? = some (V.int (i : Int)) := by
  unfold rangeV
  rw [List.getElem?_map, List.getElem?_range h]
  rfl
theorem Walks.enum {w : Wd} {J : It} {ds : List D} {xs : List V} (h1 : Ra K w xs ds)
    (hw : ∀ w' H' h', LeX w w' → RepH K w' H' h' → ∃ G : Hp → Prop, G H' ∧ Walk J xs.length G (YPair (fun i => some (.int (i : Nat))) (fun i => xs[i]?))) : Walks K J w (enumD ds) none := by
  have l1 := h1.length
  have hl : (rangeV ds.length).length = xs.length := by unfold rangeV; simp [l1]
  refine Walks.zip (rangeV_rep (List.range ds.length)) h1 fun w' H' h' l r => ?_
  obtain ⟨G, g, wk⟩ := hw w' H' h' l r
  refine ⟨G, g, ?_⟩
  have e : min (List.map (fun i : Nat => V.int (i : Int)) (List.range ds.length)).length xs.length = xs.length := by
    simp [l1]
  rw [e]
  refine wk.mono (fun _ q => q) fun i H x H' hi _ y => ?_
  obtain ⟨T, x, z, q1, q2, q3, q4, q5⟩ := y
  refine ⟨T, x, z, q1, q2, q3, ?_, q5⟩
  have q4 : some (V.int (i : Int)) = some x := q4
  rw [← q4]
  exact rangeV_get (by omega)
theorem i_enum (hm : X.mg "enumerate" = none) (ha : PA X [e] (TAr X W as)) (hg : Gl X "enumerate" := by rfl)
    (hs : starEach [e] X.env = [(false, eval e X.env)] := by rfl) :
    PI X (.Tuple elts kk tpos) (.Call (.Name "enumerate" p) [e] [] pos) (tI X W (iEnum as)) := by
  refine (pi_enumA hg hm ha hs).wk fun σ H R ⟨w, G, h, g, r, o⟩ => ⟨w, G, h, g, r, OutI.bindA (as := as) o fun d h2 v w1 H1 em l r1 x o1 => ?_⟩
  split at o1
  · obtain ⟨v, rfl, rv⟩ := ra_one x
    cases rv with
    | @tup p1 xs _ a1 b1 =>
      exact ⟨p1, xs, rfl, .inr ⟨r1.ex.t a1, o1 _ w1 H1 (Le.refl _) r1 (Walks.enum b1 fun w' H' h' l r => ⟨_, r.ex.t (l.ex.t a1), walk_enumT⟩)⟩⟩
  · split at o1
    · rename_i ds e1
      obtain ⟨v, rfl, rv⟩ := ra_one x
      obtain ⟨p1, xs, rfl, a1, b1⟩ := vI_rep rv e1
      exact ⟨p1, xs, rfl, .inl ⟨r1.ex.l a1, o1 _ w1 H1 (Le.refl _) r1 (Walks.enum b1 fun w' H' h' l r => ⟨_, r.ex.l (l.ex.l a1), walk_enum⟩)⟩⟩
    · exact o1.elim
  · exact o1.elim
/-! range(i, j, -1) -/
noncomputable def downD (lo : Int) (n : Nat) : List D := (List.range n).map fun i : Nat => D.int (lo + (i : Int) * (-1))
noncomputable def iDown (as : MeL) : Im := fun G h => (as G h).bind fun xs h1 => match xs with
  | [.int i, .int j, .int k] => if k = -1 ∧ okR2 i j then .ok (downD i (i - j).toNat, none) h1 else .stuck
  | _ => .stuck
/-! l.extend(xs), xs a list -/
variable {o : Expr} {ma : Me} {apos cpos : Pos}
theorem mt_extendR : MtM X "list.extend" rExt3 := by
  intro pins s σ H x vs v us Q I rx rv h
  obtain ⟨l, b, xs, zs, rfl, rfl, hH, hB, hz, q⟩ := h
  cases rx
  obtain ⟨u, rfl, ru⟩ := rv.one
  cases ru
  obtain ⟨z, its, n, r, hl, e⟩ := I.lstM hH
  obtain ⟨z2, its2, n2, r2, e2⟩ := hB.ok I.hok
  have hl2 := r2.length
  have hsz : its.toArray.size + its2.toArray.size ≤ sizeLine := by rw [List.size_toArray, List.size_toArray]; omega
  have hlong : ¬ (!its.toArray.isEmpty && Builtin.List.listTooLong (its.toArray.size + its2.toArray.size)) = true := by
    rw [notLongL hsz, Bool.and_false]
    exact Bool.false_ne_true
  refine call_meets F.slot_list_extend ⟨_, e, rfl⟩ F.entry_list_extend (F.args_list_extend_2 _ _)
    (AutoSeq1.list_extend_list_list_0 l its.toArray n b its2.toArray n2 hlong (by rw [List.size_toArray]; omega) (by omega)) ⟨e, e2, ?_⟩
  refine ⟨.non, _, I.lset (its' := its ++ its2) hH e (by simp) (r.append r2) ?_, rfl, q⟩
  rw [List.length_append]
  omega
theorem fol_ext : FolM X W fExt rExt3 := by
  intro w h H σ Q v d vs ds rh rv ra o
  unfold fExt at o
  split at o
  · rename_i n y
    split at o
    · rename_i es e
      split at o
      · rename_i fs e3
        split at o
        · rename_i c
          cases rv with
          | loc hn =>
            obtain ⟨u, rfl, ru⟩ := ra_one ra
            obtain ⟨_, xs, e1, rx⟩ := rh.cell n _ e
            obtain ⟨b, zs, rfl, hB, rz⟩ := vR_rep rh ru e3
            exact ⟨w.mu n, b, xs, zs, rfl, rfl, e1, hB, big_le (by rw [rx.length, rz.length]; exact c), out_set hn o rh .non (rx.append rz)⟩
        · exact o.elim
      · exact o.elim
    · exact o.elim
  · exact o.elim
theorem e_ext (ho : PE X o (TM X W ma)) (ha : PA X [e] (TAr X W as))
    (hbase : attributeBase o "extend" X.env (eval o X.env) = eval o X.env := by rfl)
    (hfew : ((backTo cpos (starEach [e] X.env)).all (fun x => !x.1) && (backToKw cpos (keywordEach [] X.env)).all (fun x => x.1.isSome)
      && decide (([e] : List Expr).length + ([] : List Keyword).length + (if ([] : List Keyword).isEmpty then 0 else 1) < 30)) = true := by rfl)
    (hline : (apos.endLine == cpos.line) = true := by rfl) (hs : starEach [e] X.env = (false, eval e X.env) :: starEach [] X.env := by rfl) (hplain : (backTo cpos (starEach [] X.env)).any (·.1) = false := by rfl) :
    PE X (.Call (.Attribute o "extend" apos) [e] [] cpos) (TM X W (mBM fExt ma as)) :=
  e_bm PySem.F.slot_list_extend PySem.F.type_list_extend mt_extendR fol_ext ho ha hbase hfew hline hs hplain
end
end AB
/-! AB: what the printed texts use. -/
namespace AB
open PySem PySem.Spec PyProof.Rows L2

/-- the def x keeps its mirror's promise -/
structure Has (P : Program) (w : World) (K : PySem.W.Frag) (mg : Str → Option Value) (base : Heap) (x : Str) (k : Nat) (ps : List Str) (sp : Sp) : Prop where
  ex : ∃ f fd, mg x = some (.ref f) ∧ PySem.W.keepIn K (.ref f) = true ∧ Binds K fd ps [] ∧ FnOk P w K mg base (L2.CX P w) k f fd ps sp
theorem hu65 {k : Nat} {A : Around} (hr : Room k A) : A.units + 65 < cLine := by
  have := hr.un
  omega
theorem hu64 {k : Nat} {A : Around} (hr : Room k A) : A.units + 64 < cLine := by
  have := hr.un
  omega
section
variable {X : Cx} {W : WX} {pos p : Pos} {e : Expr} {es : List Expr} {as : MeL} {x : Str} {k k' : Nat} {ps : List Str} {m : Fn} {ml : FnL}
theorem e_callH (F : Has X.prog X.w X.K X.mg X.base x k ps (spM X.K X.mg m)) (hr : Room k' X.A) (tk : Takes X W)
    (ha : PA X (e :: es) (TAr X W as)) (hk' : k ≤ k' := by first | decide | omega) (hg : Gl X x := by rfl) (hdb : (x == ("__debug__" : Str)) = false := by decide) (he : starEach (e :: es) X.env = (false, eval e X.env) :: starEach es X.env := by rfl) (hpl : (backTo pos (starEach es X.env)).any (·.1) = false := by rfl) :
    PE X (.Call (.Name x p) (e :: es) [] pos) (TM X W (mN m as)) := by
  obtain ⟨f, fd, h1, h2, h3, h4⟩ := F.ex
  exact e_call h4 hr hk' tk h1 h2 h3 ha hg hdb he hpl
theorem f_callH (F : Has X.prog X.w X.K X.mg X.base x k ps (spL X.K X.mg ml)) (hr : Room k' X.A) (tk : Takes X W)
    (ha : PA X (e :: es) (TAr X W as)) (hk' : k ≤ k' := by first | decide | omega) (hg : Gl X x := by rfl) (hdb : (x == ("__debug__" : Str)) = false := by decide) (he : starEach (e :: es) X.env = (false, eval e X.env) :: starEach es X.env := by rfl) (hpl : (backTo pos (starEach es X.env)).any (·.1) = false := by rfl) :
    PE X (.Call (.Name x p) (e :: es) [] pos) (TF X W (lN ml as)) := by
  obtain ⟨f, fd, h1, h2, h3, h4⟩ := F.ex
  exact f_call h4 hr hk' tk h1 h2 h3 ha hg hdb he hpl
theorem e_globI {i : Int} (hm : ∃ t : Tok, X.mg x = some (.int i t)) (hg : Gl X x := by rfl) (hd : (x == ("__debug__" : Str)) = false := by decide) : PE X (.Name x pos) (TM X W (mC (.int i))) := by
  obtain ⟨t, hm⟩ := hm
  exact e_glob (v := .int i) hm ⟨t, rfl⟩ (fun _ => .int i) hg hd
/-! < of ints, else of data -/
noncomputable def isII (x y : D) : Option (Int × Int) := match x, y with
  | .int i, .int j => some (i, j)
  | _, _ => none
noncomputable def oII (f : Int → Int → Bool) (g : D → D → AH → Res D) (x y : D) (h : AH) : Res D := match isII x y with
  | some (i, j) => .ok (.bl (f i j)) h
  | none => g x y h
noncomputable def cLt : D → D → AH → Res D := oII (fun i j => decide (i < j)) fLtD
noncomputable def cLe : D → D → AH → Res D := oII (fun i j => decide (i ≤ j)) fLeD
noncomputable def cGt : D → D → AH → Res D := oII (fun i j => decide (j < i)) fGtD
noncomputable def cGe : D → D → AH → Res D := oII (fun i j => decide (j ≤ i)) fGeD
noncomputable def rII (K : PySem.W.Frag) (f : Int → Int → Bool) (g : PyData → PyData → Bool) : R2 := fun x y H Q => rI0 (fun i j => .bl (f i j)) x y H Q ∨ rLtD K g x y H Q
theorem fol_ii {f : Int → Int → Bool} {g : PyData → PyData → Bool} {gg : D → D → AH → Res D} (hg : Fol2 X W gg (rLtD X.K g)) : Fol2 X W (oII f gg) (rII X.K f g) := by
  intro w h H σ Q v1 v2 d1 d2 rh r1 r2 o
  unfold oII at o
  split at o
  · rename_i i j e
    have : d1 = .int i ∧ d2 = .int j := by
      cases d1 <;> cases d2 <;> first | (cases e; exact ⟨rfl, rfl⟩) | cases e
    obtain ⟨rfl, rfl⟩ := this
    cases r1
    cases r2
    exact .inl ⟨i, j, rfl, rfl, out_ok o rh (.bl _)⟩
  · exact .inr (hg w h H σ Q v1 v2 d1 d2 rh r1 r2 o)
theorem op_cLt (hu : X.A.units + 65 < cLine) : OpR X (compareOp .Lt) (rII X.K (fun i j => decide (i < j)) fun d e => PySem.W.dataLt d e) := OpR.or op_lt (op_ltD hu)
theorem op_cLe (hu : X.A.units + 65 < cLine) : OpR X (compareOp .LtE) (rII X.K (fun i j => decide (i ≤ j)) fun d e => !PySem.W.dataLt e d) := OpR.or op_le (op_leD hu)
theorem op_cGt (hu : X.A.units + 65 < cLine) : OpR X (compareOp .Gt) (rII X.K (fun i j => decide (j < i)) fun d e => PySem.W.dataLt e d) := OpR.or op_gt (op_gtD hu)
theorem op_cGe (hu : X.A.units + 65 < cLine) : OpR X (compareOp .GtE) (rII X.K (fun i j => decide (j ≤ i)) fun d e => !PySem.W.dataLt d e) := OpR.or op_ge (op_geD hu)
theorem fol_cLt : Fol2 X W cLt (rII X.K (fun i j => decide (i < j)) fun d e => PySem.W.dataLt d e) := fol_ii (fol_ltD fun _ _ _ => rfl)
theorem fol_cLe : Fol2 X W cLe (rII X.K (fun i j => decide (i ≤ j)) fun d e => !PySem.W.dataLt e d) := fol_ii (fol_ltD (f := fun d e => !PySem.W.dataLt e d) fun _ _ _ => rfl)
theorem fol_cGt : Fol2 X W cGt (rII X.K (fun i j => decide (j < i)) fun d e => PySem.W.dataLt e d) := fol_ii (fol_ltD (f := fun d e => PySem.W.dataLt e d) fun _ _ _ => rfl)
theorem fol_cGe : Fol2 X W cGe (rII X.K (fun i j => decide (j ≤ i)) fun d e => !PySem.W.dataLt d e) := fol_ii (fol_ltD (f := fun d e => !PySem.W.dataLt d e) fun _ _ _ => rfl)
end
section
variable {X : Cx} {x : Str} {pos : Pos} {i kk : Nat} {e : Expr} {es : List Expr} {p : Pat} {ps : List Pat}
theorem pg_nmP (hN : X.N.Nodup) (hi : X.N[i]? = some x) (hx : Loc X.env.scope x := by first | exact Or.inl rfl | exact Or.inr rfl) (hf : X.fn x = true ∨ X.env.scope.names.lookup x = some .local := by first | exact .inl rfl | exact .inr rfl) : PG X (.Name x pos) (gP X.K (.nm i)) := by
  unfold gP
  exact pg_name hN hi hx hf
theorem pgs_nilP : PGs X [] (gPs X.K []) := by
  unfold gPs
  exact pgs_nil
theorem pgs_consP (h1 : PG X e (gP X.K p)) (h2 : PGs X es (gPs X.K ps)) (hs : (assignEach (e :: es) X.env).map (·.2) = assign e X.env :: (assignEach es X.env).map (·.2) := by rfl) : PGs X (e :: es) (gPs X.K (p :: ps)) := by
  unfold gPs
  exact pgs_cons h1 h2 hs
theorem pg_tpP (hc : X.calm = true) (h : PGs X es (gPs X.K ps)) (hn : (assignEach es X.env).length = ps.length := by rfl) (hst : (assignEach es X.env).findIdx? (·.1) = none := by rfl) : PG X (.Tuple es kk pos) (gP X.K (.tp ps)) := by
  unfold gP
  exact pg_tup hc h hn hst
end
theorem p_yes {X : Cx} {W : WX} : PTs X [] (TTT X W tYesM) := ⟨fun pins s σ H Q I ⟨w, G, h, g, r, o⟩ => pts_nil.run pins s σ H Q I (o w H (Le.refl _) r)⟩
theorem ints_rep {K : PySem.W.Frag} {w : Wd} : ∀ (ns : List Int), Ra K w (ns.map V.int) (ns.map D.int)
  | [] => .nil
  | n :: ns => .cons (.int n) (ints_rep ns)
/-- the end: the mirror of law, from the script -/
noncomputable def spLaw (K : PySem.W.Frag) : Sp := fun vs H Q _ => ∃ (a : Addr) (ns : List Int), vs = [.ref a] ∧ SqL K H a (ns.map V.int) ∧ ns.length ≤ 63 ∧ ∀ H', Q (.bl true) H'
theorem sp_law {K : PySem.W.Frag} {mg : Str → Option Value} {m : Fn} (ht : ∀ ns : List Int, ns.length ≤ 63 → ∃ h, m [.rol (ns.map D.int)] [] = .ok (.bl true) h) {vs : List V} {H : Hp} {Q : VK} {E : XK} (h : spLaw K vs H Q E) : spM K mg m vs H Q E := by
  obtain ⟨a, ns, rfl, hS, hl, hQ⟩ := h
  obtain ⟨h, e⟩ := ht ns hl
  refine ⟨⟨H, fun _ => none, fun _ => 0, 0, fun _ => none⟩, [.rol (ns.map D.int)], [], .cons (.rol hS (ints_rep ns)) .nil, ⟨Ext.refl _, rfl, fun m n hm _ _ => absurd hm (Nat.not_lt_zero _), fun n o e => (by simp at e), fun _ _ e => (by cases e), fun _ _ e => (by cases e)⟩, ?_⟩
  rw [e]
  intro v w' H' l r x
  cases x
  exact hQ H'
end AB
/-! AB: repr in the law's own def, which knows that nothing is guarded. -/
namespace AB
open PySem PySem.Spec PyProof.Rows L2

section
variable {X : Cx} {W : WX} {pos p : Pos} {e : Expr} {as : MeL}
end
/-! != of texts -/
noncomputable def fNeS (x y : D) (h : AH) : Res D := match x, y with
  | .str i, .str j => .ok (.bl (i != j)) h
  | _, _ => .stuck
@[simp] theorem v_neS {h : AH} (x : Str) : fNeS (.str x) (.str x) h = .ok (.bl false) h := by
  show Res.ok (D.bl (x != x)) h = _
  simp
/-- the law's def, called as the claim calls it -/
noncomputable def LawAt (P : Program) (w : World) (K : PySem.W.Frag) (mg : Str → Option Value) (base : Heap) (CX : CXT) (f : Addr) (fd : FuncData) (ps : List Str) (sp : Sp) : Prop :=
  ∀ (s : Shared) (H : Hp) (args : Args) (us : List Value) (vs : List V) (Q : VK) (E : XK), Env0 P w K mg base callerA [] s H → BindsTo s fd args (ps.zip us) → Vals vs us → sp vs H Q E →
    codeAny (model P w) callerA (.call (.ref f) args) (CR CX [] P w H s Q E) s
theorem LawAt.imp {P : Program} {w : World} {K : PySem.W.Frag} {mg : Str → Option Value} {base : Heap} {CX : CXT} {f : Addr} {fd : FuncData} {ps : List Str} {sp sp' : Sp} (F : LawAt P w K mg base CX f fd ps sp) (h : ∀ vs H Q E, sp' vs H Q E → sp vs H Q E) : LawAt P w K mg base CX f fd ps sp' :=
  fun s H args us vs Q E e0 hb r q => F s H args us vs Q E e0 hb r (h vs H Q E q)
theorem cx_false {P : Program} {w : World} {H : Hp} {s : Shared} {e : Value} {s' : Shared} (h : L2.CX P w [] H s (fun _ _ _ => False) e s') : False := by
  obtain ⟨_, _, _, _, _, _, _, _, _, _, _, _, z⟩ := h
  exact z
end AB
/-! AB: how the mirrors go, as rules of simp. -/
namespace AB
open PySem PySem.Spec PyProof.Rows L2

section
variable {G : Env} {h : AH} {i j : Int} {d e : D} {m a b c : Me} {as : MeL} {t u : MeT} {n : Nat}
@[simp] theorem v_mV (i : Nat) : mV i G h = (match G[i]? with | some (some d) => .ok d h | _ => .stuck) := rfl
@[simp] theorem v_mC : mC d G h = .ok d h := rfl
@[simp] theorem v_mOp2 {f : D → D → AH → Res D} : mOp2 f a b G h = (a G h).bind fun x h1 => (b G h1).bind fun y h2 => f x y h2 := rfl
@[simp] theorem v_mOp1 {f : D → AH → Res D} : mOp1 f a G h = (a G h).bind fun x h1 => f x h1 := rfl
@[simp] theorem v_aNil : aNil G h = .ok [] h := rfl
@[simp] theorem v_aCons : aCons a as G h = (a G h).bind fun x h1 => (as G h1).bind fun xs h2 => .ok (x :: xs) h2 := rfl
@[simp] theorem v_mN {f : List D → AH → Res D} : mN f as G h = (as G h).bind fun xs h1 => f xs h1 := rfl
@[simp] theorem v_lN {f : List D → AH → Res (List D)} : lN f as G h = (as G h).bind fun xs h1 => f xs h1 := rfl
@[simp] theorem v_mL : mL as G h = (as G h).bind fun ds h1 => .ok (.lst ds) h1 := rfl
@[simp] theorem v_mNew : mNew as G h = (as G h).bind fun ds h1 => .ok (.loc h1.length) (h1 ++ [.lst ds]) := rfl
@[simp] theorem v_lLst : lLst as G h = (as G h).bind fun xs h1 => if xs.length ≤ big then .ok xs h1 else .stuck := id rfl
@[simp] theorem v_fTup {ds : List D} : fTup ds h = if ds.length ≤ big then .ok (.tup ds) h else .stuck := id rfl
@[simp] theorem v_tOf : tOf m G h = (m G h).bind fun d h1 => match truD h1 d with | some b => .ok b h1 | none => .stuck := rfl
@[simp] theorem v_tBl : tBl m G h = (m G h).bind fun d h1 => match d with | .bl b => .ok b h1 | _ => .stuck := rfl
@[simp] theorem v_tAnd : tAndM t u G h = (t G h).bind fun c h1 => if c = true then u G h1 else .ok false h1 := rfl
@[simp] theorem v_tOr : tOrM t u G h = (t G h).bind fun c h1 => if c = true then .ok true h1 else u G h1 := rfl
@[simp] theorem v_tNot : tNotM t G h = (t G h).bind fun c h1 => .ok (!c) h1 := rfl
@[simp] theorem v_mAnd : mAnd a b G h = (a G h).bind fun d h1 => match truD h1 d with | some true => b G h1 | some false => .ok d h1 | none => .stuck := rfl
@[simp] theorem v_mOr : mOr a b G h = (a G h).bind fun d h1 => match truD h1 d with | some true => .ok d h1 | some false => b G h1 | none => .stuck := rfl
@[simp] theorem v_mNot : mNot a G h = (a G h).bind fun d h1 => match truD h1 d with | some b => .ok (.bl (!b)) h1 | none => .stuck := rfl
@[simp] theorem v_mIf : mIf t a b G h = (t G h).bind fun c h1 => if c = true then a G h1 else b G h1 := rfl
@[simp] theorem v_mChain {f g : D → D → AH → Res D} : mChain f g a b c G h = (a G h).bind fun x h1 => (b G h1).bind fun y h2 => (f x y h2).bind fun z h3 => match z with
  | .bl true => (c G h3).bind fun u h4 => g y u h4
  | .bl false => .ok (.bl false) h3
  | _ => .stuck := rfl
@[simp] theorem v_mIsi (T : Ty) : mIsi T m G h = (m G h).bind fun d h1 => match tyD h1 d with | some t => .ok (.bl (t.sub T)) h1 | none => .stuck := rfl
@[simp] theorem v_oNone : oNone G h = .ok none h := rfl
@[simp] theorem v_oSome : oSome m G h = (m G h).bind fun d h1 => match d with | .int i => .ok (some i) h1 | _ => .stuck := rfl
@[simp] theorem v_yes : tYesM G h = .ok true h := rfl
@[simp] theorem v_sNil : sNil G h = .next G h := rfl
@[simp] theorem v_sSeq {x y : Ms} : sSeq x y G h = (x G h).andThen y := rfl
@[simp] theorem v_sSet (i : Nat) : sSet i m G h = (m G h).toS G fun d h1 => .next (G.set i (some d)) h1 := rfl
@[simp] theorem v_sRet : sRet m G h = (m G h).toS G fun d h1 => .ret d h1 := rfl
@[simp] theorem v_sExpr : sExpr m G h = (m G h).toS G fun _ h1 => .next G h1 := rfl
@[simp] theorem v_sIf {x y : Ms} : sIf t x y G h = (t G h).toS G fun c h1 => if c = true then x G h1 else y G h1 := rfl
@[simp] theorem v_sNever : sNever G h = .stuck := rfl
@[simp] theorem v_sSub : sSub a b m G h = (m G h).toS G fun x h1 => (a G h1).toS G fun d h2 => (b G h2).toS G fun j h3 => match d, j with
  | .loc n, .int k => match h3[n]? with
    | some (.lst ds) => match ixN ds.length k with
      | some m => .next G (h3.set n (.lst (ds.set m x)))
      | none => .stuck
    | _ => .stuck
  | _, _ => .stuck := rfl
@[simp] theorem v_mBM {f : D → List D → AH → Res D} : mBM f m as G h = (m G h).bind fun d h1 => match vL h1 d with | some _ => (as G h1).bind fun xs h2 => f d xs h2 | none => .stuck := rfl
@[simp] theorem v_sFor {p : Pat} {it : Im} {x : Ms} : sFor p it x G h = (it G h).toS G fun a h1 => forGo p x a.2 a.1 a.1 G h1 := rfl
@[simp] theorem v_lComp {p : Pat} {vs : List Nat} {it : Im} : lComp p vs it t m G h = (it G h).bind fun a h1 => if a.1.length ≤ big then compGo p t m a.2 a.1 (wipeG G vs) a.1 h1 else .stuck := id rfl
@[simp] theorem v_iSeq : iSeq m G h = (m G h).bind fun d h1 => match d with
  | .tup ds => .ok (ds, none) h1
  | .lst ds => .ok (ds, none) h1
  | .rol ds => .ok (ds, none) h1
  | .loc n => match h1[n]? with
    | some (.lst ds) => .ok (ds, some n) h1
    | _ => .stuck
  | _ => .stuck := rfl
/-! values -/
@[simp] theorem v_ii : isII (.int i) (.int j) = some (i, j) := rfl
@[simp] theorem v_cLt : cLt (.int i) (.int j) h = .ok (.bl (decide (i < j))) h := rfl
@[simp] theorem v_cLe : cLe (.int i) (.int j) h = .ok (.bl (decide (i ≤ j))) h := rfl
@[simp] theorem v_cGt : cGt (.int i) (.int j) h = .ok (.bl (decide (j < i))) h := rfl
@[simp] theorem v_cGe : cGe (.int i) (.int j) h = .ok (.bl (decide (j ≤ i))) h := rfl
@[simp] theorem v_add : fAdd (.int i) (.int j) h = .ok (.int (i + j)) h := rfl
@[simp] theorem v_sub : fSub (.int i) (.int j) h = .ok (.int (i - j)) h := rfl
@[simp] theorem v_neg : fNeg (.int i) h = .ok (.int (-i)) h := rfl
@[simp] theorem v_mul : fMul (.int i) (.int j) h = if (-(2 ^ 60) ≤ i ∧ i ≤ 2 ^ 60) ∨ (-(2 ^ 60) ≤ j ∧ j ≤ 2 ^ 60) then .ok (.int (i * j)) h else .stuck := id rfl
@[simp] theorem v_mod : fMod (.int i) (.int j) h = if 0 < j then .ok (.int (i % j)) h else .stuck := id rfl
@[simp] theorem v_div : fDiv (.int i) (.int j) h = if 0 < j ∧ j ≤ 2 ^ 60 then .ok (.int (i / j)) h else .stuck := id rfl
@[simp] theorem v_pow : fPow (.int i) (.int j) h = if 0 ≤ j ∧ j ≤ 1000 ∧ 0 ≤ i ∧ i ≤ 1000 then .ok (.int (i ^ j.toNat)) h else .stuck := id rfl
@[simp] theorem v_int : fInt [.int i] h = .ok (.int i) h := rfl
@[simp] theorem v_intB {b : Bool} : fInt [.bl b] h = .ok (.int (if b then 1 else 0)) h := rfl
@[simp] theorem v_abs : fAbs [.int i] h = .ok (.int (if i < 0 then -i else i)) h := rfl
theorem okP_int : okP h (.int i) = some (.int i) := rfl
@[simp] theorem v_eq : fEq (.int i) (.int j) h = .ok (.bl (decide (i = j))) h := by
  show Res.ok (D.bl (PyData.eqv (.int i) (.int j))) h = _
  simp only [PyData.eqv]
  rfl
@[simp] theorem v_ne : fNe (.int i) (.int j) h = .ok (.bl (!decide (i = j))) h := by
  show Res.ok (D.bl (!PyData.eqv (.int i) (.int j))) h = _
  simp only [PyData.eqv]
  rfl
@[simp] theorem v_eqB {b c : Bool} : fEq (.bl b) (.bl c) h = .ok (.bl (decide (b = c))) h := by
  show Res.ok (D.bl (PyData.eqv (.bool b) (.bool c))) h = _
  simp only [PyData.eqv]
  cases b <;> cases c <;> rfl
@[simp] theorem v_isB {b c : Bool} : fIsB (.bl b) (.bl c) h = .ok (.bl (decide (b = c))) h := rfl
@[simp] theorem v_notB {b c : Bool} : fNotB (.bl b) (.bl c) h = .ok (.bl (!decide (b = c))) h := rfl
@[simp] theorem v_truB {b : Bool} : truD h (.bl b) = some b := rfl
@[simp] theorem v_truI : truD h (.int i) = some (i != 0) := rfl
@[simp] theorem v_vSt {ds : List D} : vS h (.tup ds) = some ds := rfl
@[simp] theorem v_vSl {ds : List D} : vS h (.lst ds) = some ds := rfl
@[simp] theorem v_vSr {ds : List D} : vS h (.rol ds) = some ds := rfl
@[simp] theorem v_vSo : vS h (.loc n) = (match h[n]? with | some (.lst ds) => some ds | _ => none) := rfl
@[simp] theorem v_vLl {ds : List D} : vL h (.lst ds) = some ds := rfl
@[simp] theorem v_vLr {ds : List D} : vL h (.rol ds) = some ds := rfl
@[simp] theorem v_vLo : vL h (.loc n) = (match h[n]? with | some (.lst ds) => some ds | _ => none) := rfl
@[simp] theorem v_ix : fIx d (.int i) h = (match vS h d with | some ds => (match atI ds i with | some d => .ok d h | none => .stuck) | none => .stuck) := rfl
@[simp] theorem v_len (hd : ∀ x, d ≠ .str x) : fLen [d] h = (match vS h d with | some ds => .ok (.int ds.length) h | none => .stuck) := by
  cases d with
  | str x => exact absurd rfl (hd x)
  | _ => rfl
@[simp] theorem v_tuple : fTuple [d] h = (match vS h d with | some ds => .ok (.tup ds) h | none => .stuck) := rfl
@[simp] theorem v_list : lList [d] h = (match vS h d with | some ds => .ok ds h | none => .stuck) := rfl
@[simp] theorem v_app : fApp (.loc n) [d] h = (match h[n]? with | some (.lst ds) => if ds.length < big then .ok .non (h.set n (.lst (ds ++ [d]))) else .stuck | _ => .stuck) := id rfl
@[simp] theorem v_tyI : tyD h (.int i) = some .int := rfl
@[simp] theorem v_tyB {b : Bool} : tyD h (.bl b) = some .bl := rfl
@[simp] theorem v_tyT {ds : List D} : tyD h (.tup ds) = some .tup := rfl
@[simp] theorem v_tyN : tyD h .non = some .non := rfl
@[simp] theorem v_range1 : iRange1 as G h = (as G h).bind fun xs h1 => match xs with
  | [.int j] => if okR j then .ok (rangeD 0 j.toNat, none) h1 else .stuck
  | _ => .stuck := rfl
@[simp] theorem v_range2 : iRange2 as G h = (as G h).bind fun xs h1 => match xs with
  | [.int i, .int j] => if okR2 i j then .ok (rangeD i (j - i).toNat, none) h1 else .stuck
  | _ => .stuck := rfl
@[simp] theorem v_down : iDown as G h = (as G h).bind fun xs h1 => match xs with
  | [.int i, .int j, .int k] => if k = -1 ∧ okR2 i j then .ok (downD i (i - j).toNat, none) h1 else .stuck
  | _ => .stuck := rfl
end
theorem big_eq : big = 1000000 := rfl
/-- an index within -/
theorem atI_nat {α : Type} {xs : List α} {i : Int} {x : α} (h0 : 0 ≤ i) (hx : xs[i.toNat]? = some x) : atI xs i = some x := by
  have hl := (List.getElem?_eq_some_iff.mp hx).1
  unfold atI ixN
  rw [if_pos h0, if_pos (by omega)]
  exact hx
theorem atI_map {α β : Type} (f : α → β) (xs : List α) (i : Int) : atI (xs.map f) i = (atI xs i).map f := by
  unfold atI
  rw [List.length_map]
  cases ixN xs.length i with
  | none => rfl
  | some j => simp
theorem atI_some {α : Type} {xs : List α} {i : Int} (h0 : 0 ≤ i) (h1 : i < xs.length) : ∃ x, atI xs i = some x ∧ x ∈ xs := by
  have hl : i.toNat < xs.length := by omega
  exact ⟨xs[i.toNat], atI_nat h0 (List.getElem?_eq_getElem hl), List.getElem_mem hl⟩
section
variable {α : Type} {x0 x1 x2 x3 x4 : α} {xs : List α}
@[simp] theorem atI_0 : atI (x0 :: xs) 0 = some x0 := atI_nat (Int.le_refl _) rfl
@[simp] theorem atI_1 : atI (x0 :: x1 :: xs) 1 = some x1 := atI_nat (by decide) rfl
@[simp] theorem atI_2 : atI (x0 :: x1 :: x2 :: xs) 2 = some x2 := atI_nat (by decide) rfl
@[simp] theorem atI_3 : atI (x0 :: x1 :: x2 :: x3 :: xs) 3 = some x3 := atI_nat (by decide) rfl
@[simp] theorem atI_4 : atI (x0 :: x1 :: x2 :: x3 :: x4 :: xs) 4 = some x4 := atI_nat (by decide) rfl
end
end AB
/-! AB: loops and comprehensions whose source stays; in, all, any, max; what defs hand back. -/
namespace AB
open PySem PySem.Spec PyProof.Rows L2

section
variable {α : Type} {p : Pat} {t : MeT} {e : Me} {body : Ms} {all0 : List D} {G0 : Env} {h : AH}
theorem comp_ok (enc : α → D) (q : α → Bool) (f : α → D) : ∀ (xs : List α), (∀ x ∈ xs, ∃ G1, asg p (enc x) G0 = some G1 ∧ t G1 h = .ok (q x) h ∧ (q x = true → e G1 h = .ok (f x) h)) →
    compGo p t e none all0 G0 (xs.map enc) h = .ok ((xs.filter q).map f) h
  | [], _ => by simp [compGo, Still]
  | x :: xs, hx => by
    obtain ⟨G1, e1, e2, e3⟩ := hx x List.mem_cons_self
    have ih := comp_ok enc q f xs fun y hy => hx y (List.mem_cons_of_mem _ hy)
    rw [List.map_cons]
    unfold compGo
    rw [if_pos (by trivial), e1]
    simp only [e2, Res.noX_ok, Res.bind_ok]
    cases hq : q x with
    | true =>
      rw [if_pos rfl, e3 hq, List.filter_cons_of_pos hq]
      simp only [Res.noX_ok, Res.bind_ok, ih, List.map_cons]
    | false =>
      rw [if_neg (by simp), ih, List.filter_cons_of_neg (by simp [hq])]
/-- every element, with no test -/
theorem comp_all (enc : α → D) (f : α → D) (xs : List α) (hx : ∀ x ∈ xs, ∃ G1, asg p (enc x) G0 = some G1 ∧ e G1 h = .ok (f x) h) : compGo p tYesM e none all0 G0 (xs.map enc) h = .ok (xs.map f) h := by
  have := comp_ok (p := p) (t := tYesM) (e := e) (all0 := all0) (G0 := G0) (h := h) enc (fun _ => true) f xs fun x hm => by
    obtain ⟨G1, e1, e2⟩ := hx x hm
    exact ⟨G1, e1, rfl, fun _ => e2⟩
  rw [this, List.filter_eq_self.mpr fun _ _ => rfl]
/-- with a heap that goes on: what is taken is a sublist -/
theorem comp_inv {I : AH → Prop} (enc : α → D) (f : α → D) : ∀ (xs : List α), (∀ x ∈ xs, ∀ h, I h → ∃ G1 b h1, asg p (enc x) G0 = some G1 ∧ t G1 h = .ok b h1 ∧ I h1 ∧ (b = true → ∃ h2, e G1 h1 = .ok (f x) h2 ∧ I h2)) →
    ∀ h, I h → ∃ (ys : List α) (h' : AH), compGo p t e none all0 G0 (xs.map enc) h = .ok (ys.map f) h' ∧ I h' ∧ ys.Sublist xs
  | [], _, h, hI => ⟨[], h, by simp [compGo, Still], hI, .slnil⟩
  | x :: xs, hx, h, hI => by
    obtain ⟨G1, b, h1, e1, e2, hI1, e3⟩ := hx x List.mem_cons_self h hI
    rw [List.map_cons]
    unfold compGo
    rw [if_pos (by trivial), e1]
    simp only [e2, Res.noX_ok, Res.bind_ok]
    cases b with
    | true =>
      obtain ⟨h2, e4, hI2⟩ := e3 rfl
      obtain ⟨ys, h', e5, hI', sl⟩ := comp_inv enc f xs (fun y hy => hx y (List.mem_cons_of_mem _ hy)) h2 hI2
      refine ⟨x :: ys, h', ?_, hI', sl.cons₂ x⟩
      rw [if_pos rfl, e4]
      simp only [Res.noX_ok, Res.bind_ok, e5, List.map_cons]
    | false =>
      obtain ⟨ys, h', e5, hI', sl⟩ := comp_inv enc f xs (fun y hy => hx y (List.mem_cons_of_mem _ hy)) h1 hI1
      refine ⟨ys, h', ?_, hI', sl.cons x⟩
      rw [if_neg (by simp), e5]
/-- a loop that goes on -/
theorem for_inv (I : Env → AH → Prop) (enc : α → D) : ∀ (xs : List α), (∀ x ∈ xs, ∀ G h, I G h → ∃ G1 G2 h2, asg p (enc x) G = some G1 ∧ body G1 h = .next G2 h2 ∧ I G2 h2) →
    ∀ G h, I G h → ∃ G' h', forGo p body none all0 (xs.map enc) G h = .next G' h' ∧ I G' h'
  | [], _, G, h, hI => ⟨G, h, by simp [forGo, Still], hI⟩
  | x :: xs, hx, G, h, hI => by
    obtain ⟨G1, G2, h2, e1, e2, hI2⟩ := hx x List.mem_cons_self G h hI
    obtain ⟨G', h', e3, hI'⟩ := for_inv I enc xs (fun y hy => hx y (List.mem_cons_of_mem _ hy)) G2 h2 hI2
    refine ⟨G', h', ?_, hI'⟩
    rw [List.map_cons]
    unfold forGo
    rw [if_pos (by trivial), e1]
    simp only [e2, e3]
/-- a loop with a count of its turns -/
theorem for_invN (I : Nat → Env → AH → Prop) (enc : Nat → D) (n : Nat) : ∀ (k j : Nat), k + j = n → (∀ i, i < n → ∀ G h, I i G h → ∃ G1 G2 h2, asg p (enc i) G = some G1 ∧ body G1 h = .next G2 h2 ∧ I (i + 1) G2 h2) →
    ∀ G h, I k G h → ∃ G' h', forGo p body none all0 ((List.range' k j).map enc) G h = .next G' h' ∧ I n G' h'
  | k, 0, hk, _, G, h, hI => ⟨G, h, by simp [forGo, Still], by
    have : k = n := by omega
    rw [← this]
    exact hI⟩
  | k, j + 1, hk, hx, G, h, hI => by
    obtain ⟨G1, G2, h2, e1, e2, hI2⟩ := hx k (by omega) G h hI
    obtain ⟨G', h', e3, hI'⟩ := for_invN I enc n (k + 1) j (by omega) hx G2 h2 hI2
    refine ⟨G', h', ?_, hI'⟩
    rw [List.range'_succ, List.map_cons]
    unfold forGo
    rw [if_pos (by trivial), e1]
    simp only [e2, e3]
end
/-! lists of ints as data -/
theorem toPs_ints : ∀ ns : List Int, toPs (ns.map D.int) = some (ns.map PyData.int)
  | [] => rfl
  | n :: ns => by
    show (match toP (D.int n), toPs (ns.map D.int) with | some p, some ps => some (p :: ps) | _, _ => none) = _
    rw [toPs_ints ns]
    rfl
theorem lay_ints : ∀ ns : List Int, PyData.canLayAll0 (ns.map PyData.int) = true
  | [] => by simp [PyData.canLayAll0]
  | n :: ns => by simp [PyData.canLayAll0, PyData.canLay0, lay_ints ns]
theorem dep_ints : ∀ ns : List Int, PyData.depthAll (ns.map PyData.int) = 0
  | [] => by simp [PyData.depthAll]
  | n :: ns => by simp [PyData.depthAll, PyData.depth, dep_ints ns]
theorem shaped_ints (ns : List Int) : SeqAt.shaped (.tuple (ns.map PyData.int)) = true := by
  simp [SeqAt.shaped, PyData.canLay0, PyData.depth, lay_ints, dep_ints]
theorem okP_ints {h : AH} (ns : List Int) : okP h (.tup (ns.map D.int)) = some (.tuple (ns.map PyData.int)) := by
  unfold okP
  have e : toPh h (.tup (ns.map D.int)) = some (.tuple (ns.map PyData.int)) := by
    show (toPs (ns.map D.int)).map PyData.tuple = _
    rw [toPs_ints]
    rfl
  rw [e]
  simp only [shaped_ints, if_true]
theorem any_ints (k : Int) (ns : List Int) : ((ns.map PyData.int).any fun z => PyData.eqv z (.int k)) = decide (k ∈ ns) := by
  induction ns with
  | nil => rfl
  | cons n ns ih =>
    rw [List.map_cons, List.any_cons, ih]
    simp only [PyData.eqv, List.mem_cons]
    by_cases h : n = k
    · subst h
      simp
    · have h2 : ¬ k = n := fun e => h e.symm
      simp [h, h2]
@[simp] theorem v_inT {h : AH} (k : Int) (ns : List Int) : fIn (.int k) (.tup (ns.map D.int)) h = .ok (.bl (decide (k ∈ ns))) h := by
  unfold fIn inD
  rw [okP_int, okP_ints]
  simp only [any_ints]
/-! lists of flags -/
theorem bls_map {α : Type} (f : α → Bool) : ∀ xs : List α, blsOf (xs.map fun x => D.bl (f x)) = some (xs.map f)
  | [] => rfl
  | x :: xs => by
    show (blsOf (xs.map fun x => D.bl (f x))).map (f x :: ·) = _
    rw [bls_map f xs]
    rfl
@[simp] theorem v_all {α : Type} {h : AH} (f : α → Bool) (xs : List α) : fAll [.lst (xs.map fun x => D.bl (f x))] h = .ok (.bl (xs.all f)) h := by
  have e : lBls [.lst (xs.map fun x => D.bl (f x))] h = some (xs.map f) := bls_map f xs
  unfold fAll
  rw [e]
  simp [List.all_map, Function.comp_def]
@[simp] theorem v_any {α : Type} {h : AH} (f : α → Bool) (xs : List α) : fAny [.lst (xs.map fun x => D.bl (f x))] h = .ok (.bl (xs.any f)) h := by
  have e : lBls [.lst (xs.map fun x => D.bl (f x))] h = some (xs.map f) := bls_map f xs
  unfold fAny
  rw [e]
  simp [List.any_map, Function.comp_def]
@[simp] theorem v_addL {h : AH} (xs ys : List D) : fAdd (.lst xs) (.lst ys) h = if xs.length + ys.length ≤ big then .ok (.lst (xs ++ ys)) h else .stuck := id rfl
@[simp] theorem v_addT {h : AH} (xs ys : List D) : fAdd (.tup xs) (.tup ys) h = if xs.length + ys.length ≤ big then .ok (.tup (xs ++ ys)) h else .stuck := id rfl
@[simp] theorem v_enum {h : AH} {G : Env} {as : MeL} : iEnum as G h = (as G h).bind fun xs h1 => match xs with
  | [.tup ds] => .ok (enumD ds, none) h1
  | [d] => match vI d with
    | some ds => .ok (enumD ds, none) h1
    | none => .stuck
  | _ => .stuck := rfl
@[simp] theorem v_zip {h : AH} {G : Env} {as : MeL} : iZip as G h = (as G h).bind fun xs h1 => match xs with
  | [.tup ds, .tup es] => .ok (pairsD ds es, none) h1
  | [d, e] => match vI d, vI e with
    | some ds, some es => .ok (pairsD ds es, none) h1
    | _, _ => .stuck
  | _ => .stuck := rfl
@[simp] theorem v_mSlT {h : AH} {G : Env} {m : Me} {lo hi : MeO} : mSl m lo hi G h = (m G h).bind fun x h1 => (lo G h1).bind fun l h2 => (hi G h2).bind fun u h3 => match x with
  | .tup ds => .ok (.tup (cutD ds l u)) h3
  | d => match vL h3 d with
    | some ds => .ok (.lst (cutD ds l u)) h3
    | none => .stuck := rfl
@[simp] theorem v_sAsg {h : AH} {G : Env} {p : Pat} {m : Me} : sAsg p m G h = (m G h).toS G fun d h1 => match asg p d G with
  | some G1 => .next G1 h1
  | none => .stuck := rfl
theorem enumD_eq (ds : List D) : enumD ds = (List.range ds.length).map fun i : Nat => D.tup [.int (i : Int), ds.getD i .non] := by
  unfold enumD pairsD rangeD
  apply List.ext_getElem?
  intro i
  by_cases hi : i < ds.length
  · simp [List.getElem?_zip_eq_some, hi, List.getD_eq_getElem?_getD]
  · simp [hi]
theorem rangeD_eq (n : Nat) : rangeD 0 n = (List.range n).map fun i : Nat => D.int (i : Int) := by
  unfold rangeD
  simp
/-! what defs hand back -/
theorem okCells_app (h t : AH) : OkCells h.length h (h ++ t) := fun m o hm e => .inl (by rwa [List.getElem?_append_left hm] at e)
theorem finD_app (h t : AH) (d : D) (hd : d.under h.length = true) : finD h.length h d (h ++ t) = .ok d h := by
  unfold finD
  by_cases q : (h ++ t).length = h.length
  · have : t = [] := by
      rw [List.length_append] at q
      exact List.eq_nil_of_length_eq_zero (by omega)
    subst this
    simp
  · rw [if_neg q, if_pos ⟨hd, okCells_app h t⟩, List.take_left']
    rfl
@[simp] theorem finD_same (h : AH) (d : D) : finD h.length h d h = .ok d h := by
  unfold finD
  rw [if_pos rfl]
theorem finL_new (h : AH) (ds : List D) (hd : underL h.length ds = true) : finL h.length h (.loc h.length) (h ++ [.lst ds]) = .ok ds h := by
  unfold finL
  have e : (h ++ [AO.lst ds])[h.length]? = some (.lst ds) := by
    rw [List.getElem?_append_right (Nat.le_refl _), Nat.sub_self]
    rfl
  simp only [e]
  rw [if_pos ⟨Nat.le_refl _, hd, okCells_app h _⟩, List.take_left']
  rfl
theorem under_ints (n : Nat) (ns : List Int) : underL n (ns.map D.int) = true := by
  induction ns with
  | nil => simp [underL]
  | cons k ns ih => simp [underL, ih, D.under]
theorem under_intF {α : Type} (n : Nat) (f : α → Int) (xs : List α) : underL n (xs.map fun x => D.int (f x)) = true := by
  induction xs with
  | nil => simp [underL]
  | cons k ns ih => simp [underL, ih, D.under]
theorem cut_from1 {α : Type} (f : α → D) (xs : List α) : cutD (xs.map f) (some 1) none = (xs.drop 1).map f := by
  unfold cutD
  have e : HT.sIx (xs.map f).length 0 (some 1) = min 1 (xs.map f).length := HT.sIx_nat _ _ 1
  have e2 : HT.sIx (xs.map f).length (xs.map f).length none = (xs.map f).length := rfl
  rw [e, e2]
  cases xs with
  | nil => rfl
  | cons x r =>
    have e3 : min 1 ((x :: r).map f).length = 1 := by
      rw [List.length_map, List.length_cons]
      omega
    rw [e3, List.take_of_length_le (by rw [List.length_drop]; exact Nat.le_refl _), List.map_drop]
theorem cut_to {α : Type} (f : α → D) (xs : List α) (n : Nat) : cutD (xs.map f) none (some (n : Int)) = (xs.take n).map f := by
  unfold cutD
  have e : HT.sIx (xs.map f).length (xs.map f).length (some (n : Int)) = min n (xs.map f).length := HT.sIx_nat _ _ n
  have e2 : HT.sIx (xs.map f).length 0 none = 0 := rfl
  rw [e, e2]
  simp [List.map_take]
theorem pairsD_map {α β : Type} (f : α → D) (g : β → D) (xs : List α) (ys : List β) : pairsD (xs.map f) (ys.map g) = (xs.zip ys).map fun p => D.tup [f p.1, g p.2] := by
  unfold pairsD
  rw [List.zip_map, List.map_map]
  rfl
end AB
/-! AB: x += e of ints; defs that leave their objects; raise of an own error. -/
namespace AB
open PySem PySem.Spec PyProof.Rows L2

/-! ### x += e, x -= e -/
noncomputable def sAug (f : Int → Int → Int) (i : Nat) (m : Me) : Ms := fun G h => match G[i]? with
  | some (some (.int k)) => (m G h).toS G fun y h1 => match y with
    | .int j => .next (G.set i (some (.int (f k j)))) h1
    | _ => .stuck
  | _ => .stuck
section
variable {X : Cx} {W : WX} {x : Str} {e : Expr} {m : Me} {op : Operator} {pos pos' : Pos} {f : Int → Int → Int}
theorem s_aug (i : Nat) (ho : PIp X op (ipI f)) (he : PE X e (TM X W m)) (hN : X.N.Nodup) (hi : X.N[i]? = some x := by rfl) (hx : Loc X.env.scope x := by first | exact Or.inl rfl | exact Or.inr rfl)
    (hf : X.fn x = true ∨ X.env.scope.names.lookup x = some .local := by first | exact .inl rfl | exact .inr rfl) : PS X (.AugAssign (.Name x pos') op e pos) (TSS X W (sAug f i m)) := by
  refine (ps_aug hN hi hx he ho hf).wk fun D σ H ⟨w, G, h, g, r, o⟩ => ?_
  unfold sAug at o
  split at o
  · rename_i k ek
    obtain ⟨v, e1, rv⟩ := g.2 i _ ek
    cases rv
    refine ⟨.int k, e1, w, G, h, g, r, OutS.bindE (m := m) g o fun d h1 v w1 H1 l r1 x o1 => ?_⟩
    split at o1
    · cases x
      exact ⟨_, _, rfl, rfl, o1 _ w1 H1 (Le.refl _) ((g.mono l).set i (.int _)) r1⟩
    · exact o1.elim
  · exact o.elim
end
@[simp] theorem v_sAug {f : Int → Int → Int} {i : Nat} {m : Me} {G : Env} {h : AH} : sAug f i m G h = (match G[i]? with
  | some (some (.int k)) => (m G h).toS G fun y h1 => match y with
    | .int j => .next (G.set i (some (.int (f k j)))) h1
    | _ => .stuck
  | _ => .stuck) := rfl
/-! ### a def whose objects stay -/
noncomputable def mDefK (n N : Nat) (body : Ms) : Fn := fun ds h => if ds.length = n then
    match body (ds.map some ++ List.replicate (N - n) none) h with
    | .next _ h1 => .ok .non h1
    | .ret d h1 => .ok d h1
    | .exc c fs _ h1 => .exc c fs h1
    | _ => .stuck
  else .stuck
section
variable {P : Program} {w : World} {K : PySem.W.Frag} {mg : Str → Option Value} {base : Heap}
theorem fn_okK {x qual : Str} {st : Stmt} {f : Addr} {fd : FuncData} {N ps : List Str} {k : Nat} (F : Fun K x qual st f fd) (S : FnScope N ps (defScope st)) (m : Ms)
    (hb : ∀ (cdv : Value) (A : Around) (outer : List PySem.Env) (s : Shared) (H : Hp) (E : XK), Room k (A.deeper (envOfC qual (defScope st) s.heap.objs.size f cdv)) →
      PSs (cxOf (L2.CX P w) P w K mg base N qual (defScope st) f cdv A outer s H E) (defBody st) (tS K mg (fun c dd _ H => E c dd H) m)) :
    FnOk P w K mg base (L2.CX P w) (k + 1) f fd ps (spM K mg (mDefK ps.length N.length m)) := by
  refine F.okX S (fun vs H Q E h => ?_) fun cdv A outer s H vs Q E hr h => ⟨_, hb cdv A outer s H E hr, ?_⟩
  · obtain ⟨w, ds, h, ra, r, o⟩ := h
    unfold mDefK at o
    split at o
    · rename_i e
      rw [ra.length]
      exact e
    · exact o.elim
  · obtain ⟨w, ds, h, ra, r, o⟩ := h
    unfold mDefK at o
    split at o
    · rename_i e
      refine ⟨w, _, h, start_rep ra, r, ?_⟩
      rw [e]
      cases em : m (ds.map some ++ List.replicate (N.length - ps.length) none) h with
      | next G1 h1 =>
        rw [em] at o
        exact fun σ' w1 H1 l g r1 => o .non w1 H1 l r1 .non
      | ret d h1 =>
        rw [em] at o
        exact fun v w1 H1 l r1 rv => o v w1 H1 l r1 rv
      | brk G1 h1 => rw [em] at o; exact o.elim
      | cont G1 h1 => rw [em] at o; exact o.elim
      | stuck => rw [em] at o; exact o.elim
      | exc c fs G1 h1 =>
        rw [em] at o
        exact fun cls dd σ' w1 H1 e l g r1 x => o cls dd w1 H1 e l r1 x
    · exact o.elim
end
/-! ### raise C(), C an own class over ValueError without an own __init__ -/
structure ExcK (K : PySem.W.Frag) (mg : Str → Option Value) (x : Str) : Prop where
  ex : ∃ (C : Addr) (bmB : List Value), mg x = some (.ref C) ∧ ExcBaseFacts "ValueError" "ValueError.__new__" "ValueError.__init__" bmB ∧ PySem.W.excIn K C bmB "ValueError.__new__" = true ∧ PySem.W.keepIn K (.ref C) = true ∧
    PySem.W.subIn K (.ref C) (.type "BaseException") = some true ∧ PySem.W.typeIn K (.ref C) = some (.type "type")
section
variable {X : Cx} {W : WX} {x : Str} {p pos pos' : Pos}
theorem pmk_own0 {C : Addr} {bmB : List Value} {B newId initId : String} (F : ExcBaseFacts B newId initId bmB) (q : PySem.W.excIn X.K C bmB newId = true) (gC : X.mg x = some (.ref C))
    (kC : PySem.W.keepIn X.K (.ref C) = true) (r : Raises X (.ref C)) (hg : Gl X x) (hdb : (x == ("__debug__" : Str)) = false := by decide) :
    PMk X (.Call (.Name x p) [] [] pos) (fun σ H Q => Q (.ref C) none H) := by
  intro pins s σ H Q I h
  refine wpAny_Call_Name_kw (ld_glob I hg gC ?_ hdb)
  refine PySem.W.callWith_K0 I.kIn kC ?_
  show wpAny _ _ (call (.ref C) []) _ _ _
  obtain ⟨bm, N, nm, qn, bs, hdct, sn, sub, ab, col, dd, k0, k1, k2, k3, k5, mN, hC, hN, hni, T⟩ := exc_obj I.kIn q
  refine wpAny_call_exc_subT F T hC hN hni (fun h' e hm => ?_) (Nat.zero_le _)
  exact mk_of I hm r h (I.hok.gone hm.new)
theorem s_raise0 (E : ExcK X.K X.mg x) (tk : Takes X W) (hc : X.calm = true := by rfl) (hg : Gl X x := by rfl) (hdb : (x == ("__debug__" : Str)) = false := by decide) : PS X (.Raise (some (.Call (.Name x p) [] [] pos)) none pos') (TSS X W (sRaise x)) := by
  obtain ⟨C, bmB, h1, h2, h3, h4, h5, h6⟩ := E.ex
  refine (L2.ps_raise hc tk (pmk_own0 h2 h3 h1 h4 (raises_own h5 h6) hg hdb)).wk fun D σ H ⟨w, G, h, g, r, o⟩ => ?_
  have o : ∀ cls dd σ' w' H', X.mg x = some cls → Le w w' → RepG X.K w' σ' G → RepH X.K w' H' h → RepX X.K w' H' dd [] → W cls dd σ' H' := o
  exact o (.ref C) none σ w H h1 (Le.refl _) g r rfl
end
end AB
/-! AB: t * k of tuples. -/
namespace AB
open PySem PySem.Spec PyProof.Rows L2
open Sem (wp)
open AutoSeq1 (wpAny_loadPart')
section
variable {X : Cx} {W : WX}
end
end AB
/-! AB: comprehensions and loops that change the heap. -/
namespace AB
open PySem PySem.Spec PyProof.Rows L2
section
variable {α : Type} {p : Pat} {t : MeT} {e : Me} {body : Ms} {all0 : List D} {G0 : Env} {h : AH}
/-- every element, made by a step that changes the heap -/
theorem comp_gen {I : AH → Prop} {R : α → D → Prop} (enc : α → D) : ∀ (xs : List α), (∀ x ∈ xs, ∀ h, I h → ∃ G1 d h1, asg p (enc x) G0 = some G1 ∧ e G1 h = .ok d h1 ∧ I h1 ∧ R x d) →
    ∀ h, I h → ∃ (zs : List (α × D)) (h' : AH), compGo p tYesM e none all0 G0 (xs.map enc) h = .ok (zs.map (·.2)) h' ∧ I h' ∧ zs.map (·.1) = xs ∧ ∀ z ∈ zs, R z.1 z.2
  | [], _, h, hI => ⟨[], h, by simp [compGo, Still], hI, rfl, by simp⟩
  | x :: xs, hx, h, hI => by
    obtain ⟨G1, d, h1, e1, e2, hI1, hr⟩ := hx x List.mem_cons_self h hI
    obtain ⟨zs, h', e3, hI', e4, hz⟩ := comp_gen (R := R) enc xs (fun y hy => hx y (List.mem_cons_of_mem _ hy)) h1 hI1
    refine ⟨(x, d) :: zs, h', ?_, hI', by rw [List.map_cons, e4], fun z hz' => ?_⟩
    · rw [List.map_cons]
      unfold compGo
      rw [if_pos (by trivial), e1]
      simp only [v_yes, Res.noX_ok, Res.bind_ok, if_true, e2, e3, List.map_cons]
    · rcases List.mem_cons.mp hz' with rfl | hz'
      · exact hr
      · exact hz z hz'
/-- a loop that knows what is behind it -/
theorem for_pre (I : List α → Env → AH → Prop) (enc : α → D) (xs : List α) : ∀ (todo done : List α), done ++ todo = xs →
    (∀ done x rest, done ++ x :: rest = xs → ∀ G h, I done G h → ∃ G1 G2 h2, asg p (enc x) G = some G1 ∧ body G1 h = .next G2 h2 ∧ I (done ++ [x]) G2 h2) →
    ∀ G h, I done G h → ∃ G' h', forGo p body none all0 (todo.map enc) G h = .next G' h' ∧ I xs G' h'
  | [], done, e, _, G, h, hI => by
    rw [List.append_nil] at e
    subst e
    exact ⟨G, h, by simp [forGo, Still], hI⟩
  | x :: r, done, e, hx, G, h, hI => by
    obtain ⟨G1, G2, h2, e1, e2, hI2⟩ := hx done x r e G h hI
    obtain ⟨G', h', e3, hI'⟩ := for_pre I enc xs r (done ++ [x]) (by rw [List.append_assoc]; exact e) hx G2 h2 hI2
    refine ⟨G', h', ?_, hI'⟩
    rw [List.map_cons]
    unfold forGo
    rw [if_pos (by trivial), e1]
    simp only [e2, e3]
end
/-! while: any fuel that is enough -/
section
variable {t : MeT} {b : Ms}
end
/-! loops over an object that stays meanwhile -/
section
variable {α : Type} {p : Pat} {t : MeT} {e : Me} {body : Ms} {all0 : List D} {G0 : Env} {src : Option Nat}
end
end AB
/-! AB: classes: making, attributes, methods. -/
namespace AB
open PySem PySem.Spec PyProof.Rows L2

section
variable {K : PySem.W.Frag} {w : Wd} {H : Hp} {h : AH}
theorem RepH.fresh (r : RepH K w H h) {p : Addr} (u : HO) (hp : H p = none) : RepH K w (upd H p u) h ∧ Apart w p := by
  refine ⟨⟨fun a x e => ?_, r.len, r.inj, fun n o' e => ?_, fun a x e => by rw [upd_ne (ne_of_none (r.exF _ _ e) hp)]; exact r.exF _ _ e, r.dis⟩, r.ex.free hp, fun n hn => r.ne hn hp, r.exF.free hp⟩
  · have e2 := r.ex _ _ e
    rw [upd_ne (ne_of_none e2 hp)]
    exact e2
  · obtain ⟨a, b⟩ := r.cell n o' e
    have hn : n < w.N := by
      rw [r.len]
      exact (List.getElem?_eq_some_iff.mp e).1
    exact ⟨a, b.mono (Le.refl _) (upd_ne (r.ne hn hp))⟩
theorem RepH.newO (r : RepH K w H h) {p : Addr} {u : HO} {o : AO} (hp : H p = none) (ro : RepO K (w.push p) (upd H p u) p o) : RepH K (w.push p) (upd H p u) (h ++ [o]) :=
  let ⟨r1, ap⟩ := r.fresh u hp
  r1.push ap ro
/-- a machine's object as a value -/
theorem rv_loc {n : Nat} {v : V} (rv : Rv K w v (.loc n)) : v = .ref (w.mu n) ∧ n < w.N := by
  cases rv with
  | loc hn => exact ⟨rfl, hn⟩
theorem rv_new (p : Addr) : Rv K (w.push p) (.ref p) (.loc w.N) := by
  have h : Rv K (w.push p) (.ref ((w.push p).mu w.N)) (.loc w.N) := .loc (Nat.lt_succ_self _)
  rw [w.push_mu p] at h
  exact h
end

/-! ### rows of named things -/
noncomputable def putD (f : Str) (d : D) : List (Str × D) → List (Str × D)
  | [] => [(f, d)]
  | (g, x) :: r => if g = f then (g, d) :: r else (g, x) :: putD f d r
section
variable {K : PySem.W.Frag} {G : Hp} {mu : Nat → Addr} {N : Nat}
theorem rep_lookup (f : Str) : ∀ {fv : List (Str × V)} {fs : List (Str × D)}, fv.map (·.1) = fs.map (·.1) → RepAll K G mu N (fv.map (·.2)) (fs.map (·.2)) →
    (∀ d, fs.lookup f = some d → ∃ v, fv.lookup f = some v ∧ RepV K G mu N v d) ∧ (fs.lookup f = none → fv.lookup f = none)
  | [], [], _, _ => ⟨fun d e => (by cases e), fun _ => rfl⟩
  | [], _ :: _, e, _ => by cases e
  | _ :: _, [], e, _ => by cases e
  | (g, v) :: fv, (g', d) :: fs, e, r => by
    rw [List.map_cons, List.map_cons] at e r
    cases r with
    | cons r1 r2 =>
      obtain ⟨e1, e2⟩ := List.cons.inj e
      have e1 : g = g' := e1
      subst e1
      obtain ⟨i1, i2⟩ := rep_lookup f e2 r2
      refine ⟨fun x q => ?_, fun q => ?_⟩
      · rw [List.lookup_cons] at q ⊢
        cases c : f == g with
        | true =>
          rw [c] at q
          cases q
          exact ⟨v, rfl, r1⟩
        | false =>
          rw [c] at q
          exact i1 x q
      · rw [List.lookup_cons] at q ⊢
        cases c : f == g with
        | true => rw [c] at q; cases q
        | false =>
          rw [c] at q
          exact i2 q
theorem rep_put (f : Str) {v : V} {d : D} (rv : RepV K G mu N v d) : ∀ {fv : List (Str × V)} {fs : List (Str × D)}, fv.map (·.1) = fs.map (·.1) → RepAll K G mu N (fv.map (·.2)) (fs.map (·.2)) →
    (putF f v fv).map (·.1) = (putD f d fs).map (·.1) ∧ RepAll K G mu N ((putF f v fv).map (·.2)) ((putD f d fs).map (·.2))
  | [], [], _, _ => ⟨rfl, .cons rv .nil⟩
  | [], _ :: _, e, _ => by cases e
  | _ :: _, [], e, _ => by cases e
  | (g, x) :: fv, (g', y) :: fs, e, r => by
    rw [List.map_cons, List.map_cons] at e r
    cases r with
    | cons r1 r2 =>
      obtain ⟨e1, e2⟩ := List.cons.inj e
      have e1 : g = g' := e1
      subst e1
      obtain ⟨i1, i2⟩ := rep_put f rv e2 r2
      unfold putF putD
      by_cases c : g = f
      · rw [if_pos c, if_pos c]
        exact ⟨by rw [List.map_cons, List.map_cons, e2], .cons rv r2⟩
      · rw [if_neg c, if_neg c]
        exact ⟨by rw [List.map_cons, List.map_cons, i1], .cons r1 i2⟩
end

/-! ### attributes -/
structure FldOk (K : PySem.W.Frag) (C f : Str) : Prop where
  get : ∀ Ca, PySem.W.nsIn K mainGlobals C = some (some (.ref Ca)) → Cls K Ca ∧ NoAttr K Ca f
/-- the class by its place -/
theorem fldOk {K : PySem.W.Frag} {C f : Str} {Ca : Addr} (e : PySem.W.nsIn K mainGlobals C = some (some (.ref Ca))) (c : Cls K Ca) (n : NoAttr K Ca f) : FldOk K C f := ⟨fun Cb e2 => by
  rw [e] at e2
  cases e2
  exact ⟨c, n⟩⟩
noncomputable def AllC (p : Str → Prop) : List Str → Prop
  | [] => True
  | C :: cs => p C ∧ AllC p cs
theorem AllC.mem {p : Str → Prop} : ∀ {cs : List Str}, AllC p cs → ∀ C ∈ cs, p C
  | _ :: _, ⟨h1, h2⟩, C, hc => by
    rcases List.mem_cons.mp hc with rfl | hc
    · exact h1
    · exact AllC.mem h2 C hc
theorem AllC.n {p : Str → Prop} : AllC p [] := trivial
theorem AllC.c {p : Str → Prop} {C : Str} {cs : List Str} (h : p C) (t : AllC p cs) : AllC p (C :: cs) := ⟨h, t⟩
/-- o.f -/
noncomputable def mFld (cs : List Str) (f : Str) (o : Me) : Me := fun G h => (o G h).bind fun d h1 => match d with
  | .loc n => match h1[n]? with
    | some (.ins C fs) => if C ∈ cs then match fs.lookup f with
      | some x => .ok x h1
      | none => .stuck
      else .stuck
    | _ => .stuck
  | _ => .stuck
/-- o.f = v -/
noncomputable def sFldM (cs : List Str) (f : Str) (o v : Me) : Ms := fun G h => (v G h).toS G fun x h1 => (o G h1).toS G fun d h2 => match d with
  | .loc n => match h2[n]? with
    | some (.ins C fs) => if C ∈ cs ∧ fs.length < 1000 then .next G (h2.set n (.ins C (putD f x fs))) else .stuck
    | _ => .stuck
  | _ => .stuck
/-- o.f += e, of ints -/
noncomputable def sFldA (g : Int → Int → Int) (cs : List Str) (f : Str) (o v : Me) : Ms := fun G h => (o G h).toS G fun d h1 => match d with
  | .loc n => match h1[n]? with
    | some (.ins C fs) => if C ∈ cs then match fs.lookup f with
      | some (.int i) => (v G h1).toS G fun y h2 => match y, h2[n]? with
        | .int j, some (.ins C2 fs2) => if C2 = C ∧ fs2.length < 1000 then .next G (h2.set n (.ins C (putD f (.int (g i j)) fs2))) else .stuck
        | _, _ => .stuck
      | _ => .stuck
      else .stuck
    | _ => .stuck
  | _ => .stuck
section
variable {X : Cx} {W : WX} {o e value : Expr} {f : Str} {pos pos' tpos : Pos} {m mo mv : Me} {cs : List Str}
theorem e_fld (cs : List Str) (he : PE X e (TM X W m)) (hc : AllC (fun C => FldOk X.K C f) cs) (hb : attributeBase e f X.env (eval e X.env) = eval e X.env := by rfl) : PE X (.Attribute e f pos) (TM X W (mFld cs f m)) := by
  refine (pe_fld he hb).wk fun σ H Q ⟨w, G, h, g, r, o⟩ => ⟨w, G, h, g, r, o.bindE fun d h1 v w1 H1 l r1 x o1 => ?_⟩
  split at o1
  · rename_i n
    obtain ⟨rfl, hn⟩ := rv_loc x
    split at o1
    · rename_i C fs ec
      split at o1
      · rename_i hC
        split at o1
        · rename_i y ey
          obtain ⟨_, Ca, dx, fv, e1, e2, e3, ra, _⟩ := r1.cell n _ ec
          obtain ⟨c1, c2⟩ := (hc.mem C hC).get Ca e1
          obtain ⟨u, eu, ru⟩ := (rep_lookup f e3 ra).1 y ey
          exact ⟨_, Ca, dx, fv, u, rfl, e2, c1, c2, eu, o1 u w1 H1 (Le.refl _) r1 ru⟩
        · exact o1.elim
      · exact o1.elim
    · exact o1.elim
  · exact o1.elim
theorem set_ins {w : Wd} {H : Hp} {h : AH} {n : Nat} {C : Str} {fs : List (Str × D)} {Ca dx : Addr} {fv : List (Str × V)} (f : Str) {v : V} {d : D} (r : RepH X.K w H h) (hn : n < w.N) (e1 : PySem.W.nsIn X.K mainGlobals C = some (some (.ref Ca)))
    (e3 : fv.map (·.1) = fs.map (·.1)) (ra : RepAll X.K w.S w.mu w.N (fv.map (·.2)) (fs.map (·.2))) (es : w.S dx = some (.own (w.mu n))) (rv : Rv X.K w v d) :
    RepH X.K w (upd H (w.mu n) (.ins Ca dx (putF f v fv))) (h.set n (.ins C (putD f d fs))) := by
  obtain ⟨q1, q2⟩ := rep_put f rv e3 ra
  exact r.set hn ⟨Ca, dx, putF f v fv, e1, upd_same, q1, q2, es⟩
theorem fv_len {fv : List (Str × V)} {fs : List (Str × D)} (e : fv.map (·.1) = fs.map (·.1)) : fv.length = fs.length := by
  have := congrArg List.length e
  simpa using this
theorem s_fld (cs : List Str) (ho : PE X o (TM X W mo)) (hv : PE X value (TM X W mv)) (hc : AllC (fun C => FldOk X.K C f) cs) (hs : swapsWith value (some (.Attribute o f pos')) pos.line X.env = pure false := by rfl) :
    PS X (.Assign [.Attribute o f pos'] value pos) (TSS X W (sFldM cs f mo mv)) := by
  refine (ps_fld ho hv hs).wk fun D σ H ⟨w, G, h, g, r, o⟩ => ⟨w, G, h, g, r, OutS.bindE (m := mv) g o fun x h1 v w1 H1 l1 r1 rx o1 => ?_⟩
  have g1 := g.mono l1
  refine ⟨w1, G, h1, g1, r1, OutS.bindE (m := mo) g1 o1 fun d h2 v2 w2 H2 l2 r2 rd o2 => ?_⟩
  split at o2
  · rename_i n
    obtain ⟨rfl, hn⟩ := rv_loc rd
    split at o2
    · rename_i C fs ec
      split at o2
      · rename_i hC
        obtain ⟨_, Ca, dx, fv, e1, e2, e3, ra, es⟩ := r2.cell n _ ec
        obtain ⟨c1, c2⟩ := (hc.mem C hC.1).get Ca e1
        exact ⟨_, Ca, dx, fv, rfl, e2, c1, c2, by rw [fv_len e3]; exact hC.2, o2 σ w2 _ (Le.refl _) (g1.mono l2) (set_ins f r2 hn e1 e3 ra es (Rv_mono l2 rx))⟩
      · exact o2.elim
    · exact o2.elim
  · exact o2.elim
end
end AB
/-! AB: calls of methods, making of instances. -/
namespace AB
open PySem PySem.Spec PyProof.Rows L2

structure MthOk (P : Program) (w : World) (K : PySem.W.Frag) (mg : Str → Option Value) (base : Heap) (C m : Str) (k : Nat) (ps : List Str) (sp : Sp) : Prop where
  get : ∀ Ca, PySem.W.nsIn K mainGlobals C = some (some (.ref Ca)) → Cls K Ca ∧ ∃ f fd, Meth K Ca m f ∧ Binds K fd ps [] ∧ FnOk P w K mg base (L2.CX P w) k f fd ps sp
theorem mthOk {P : Program} {w : World} {K : PySem.W.Frag} {mg : Str → Option Value} {base : Heap} {C m : Str} {k : Nat} {ps : List Str} {sp : Sp} {Ca f : Addr} {fd : FuncData} (e : PySem.W.nsIn K mainGlobals C = some (some (.ref Ca))) (c : Cls K Ca)
    (hm : Meth K Ca m f) (hb : Binds K fd ps []) (F : FnOk P w K mg base (L2.CX P w) k f fd ps sp) : MthOk P w K mg base C m k ps sp := ⟨fun Cb e2 => by
  rw [e] at e2
  cases e2
  exact ⟨c, f, fd, hm, hb, F⟩⟩
structure MakOk (P : Program) (w : World) (K : PySem.W.Frag) (mg : Str → Option Value) (base : Heap) (C : Str) (k : Nat) (ps : List Str) (sp : Sp) : Prop where
  ex : ∃ Ca f fd, PySem.W.nsIn K mainGlobals C = some (some (.ref Ca)) ∧ mg C = some (.ref Ca) ∧ Mk K Ca f ∧ Binds K fd ps [] ∧ FnOk P w K mg base (L2.CX P w) k f fd ps sp
noncomputable def TbOk (X : Cx) (k' : Nat) (m : Str) (tb : List (Str × Fn)) : Prop := ∀ C fn, tb.lookup C = some fn → ∃ k ps, k ≤ k' ∧ MthOk X.prog X.w X.K X.mg X.base C m k ps (spM X.K X.mg fn)
theorem tb_nil {X : Cx} {k' : Nat} {m : Str} : TbOk X k' m [] := fun C fn e => by cases e
theorem tb_cons {X : Cx} {k k' : Nat} {m C : Str} {ps : List Str} {fn : Fn} {tb : List (Str × Fn)} (h : MthOk X.prog X.w X.K X.mg X.base C m k ps (spM X.K X.mg fn)) (t : TbOk X k' m tb) (hk : k ≤ k' := by first | decide | omega) : TbOk X k' m ((C, fn) :: tb) := fun C2 fn2 e => by
  rw [List.lookup_cons] at e
  cases c : C2 == C with
  | true =>
    rw [c] at e
    cases e
    have : C2 = C := by simpa using c
    subst this
    exact ⟨k, ps, hk, h⟩
  | false =>
    rw [c] at e
    exact t C2 fn2 e
/-- o.m(..) -/
noncomputable def mMeth (tb : List (Str × Fn)) (m : Str) (o : Me) (as : MeL) : Me := fun G h => (o G h).bind fun d h1 => match d with
  | .loc n => match h1[n]? with
    | some (.ins C fs) => match tb.lookup C with
      | some fn => match fs.lookup m with
        | none => (as G h1).bind fun xs h2 => fn (.loc n :: xs) h2
        | some _ => .stuck
      | none => .stuck
    | _ => .stuck
  | _ => .stuck
/-- C(..) -/
noncomputable def mMake (C : Str) (fn : Fn) (as : MeL) : Me := fun G h => (as G h).bind fun xs h1 => (fn (.loc h1.length :: xs) (h1 ++ [.ins C []])).bind fun v h2 => match v with
  | .non => .ok (.loc h1.length) h2
  | _ => .stuck
/-- a method's call, the class and the method seen when the object is there -/
noncomputable def tMethT (X : Cx) (W : WX) (m : Str) (k' : Nat) (ta : TE) (t : TA) : TE := fun σ H Q => ta σ H fun x H1 => ∃ a C dx fs k f fd ps sp, x = .ref a ∧ H1 a = some (.ins C dx fs) ∧ fs.lookup m = none ∧ Cls X.K C ∧ Meth X.K C m f ∧ Binds X.K fd ps [] ∧ k ≤ k' ∧
  FnOk X.prog X.w X.K X.mg X.base (L2.CX X.prog X.w) k f fd ps sp ∧ t σ H1 fun vs H2 => sp (x :: vs) H2 Q (WE W σ)
section
variable {X : Cx} {W : WX} {m : Str} {k' : Nat} {o e : Expr} {es : List Expr} {ta : TE} {t : TA} {apos pos : Pos} {pl : Sem Bool} {mo : Me} {as : MeL} {tb : List (Str × Fn)}
theorem pe_methT (he : PE X o ta) (hr : Room k' X.A) (tk : Takes X W) (ha : PA X (e :: es) t)
    (hst : starEach (e :: es) X.env = (false, eval e X.env) :: starEach es X.env := by rfl) (hpl : (backTo pos (starEach es X.env)).any (·.1) = false := by rfl)
    (ht : eval (.Call (.Attribute o m apos) (e :: es) [] pos) X.env = (do
      let ov ← eval o X.env
      standAt apos.atName
      let (f, first) ← holding [ov] (getMethod ov m pl)
      callWith pos f first (backTo pos (starEach (e :: es) X.env)) (backToKw pos (keywordEach [] X.env))) := by rfl) :
    PE X (.Call (.Attribute o m apos) (e :: es) [] pos) (tMethT X W m k' ta t) := by
  refine ⟨fun pins s σ H Q I h => ?_⟩
  refine PySem.W.methodCall_KW (pl := pl) (thn (he.run pins s σ H _ I h) fun u s1 ⟨x, H1, I1, rx, a, C, dx, fs, k, f, fd, ps, sp, ex, ea, l, c, hm, hb, hk, F, q⟩ => ?_) ht
  subst ex
  obtain rfl : u = Value.ref a := rx
  refine getmeth_ok I1 ea c hm l ?_
  refine PySem.W.callWith_K (first := [.ref a]) (h₀ := X.base) I.ok.mod.kin hm.kp (thn (ha.run pos pins s1 σ H1 _ I1 q) fun us s2 ⟨vs, H2, I2, r, q2⟩ => ⟨I2.kIn, ?_⟩) hst hpl
  exact run_fnS (us := .ref a :: us) (vs := .ref a :: vs) (E := WE W) F (hr.mono hk) hb (passAt tk σ) I2 (.cons rfl r) q2
theorem pe_methT0 (he : PE X o ta) (hr : Room k' X.A) (tk : Takes X W)
    (ht : eval (.Call (.Attribute o m apos) [] [] pos) X.env = (do
      let ov ← eval o X.env
      standAt apos.atName
      let (f, first) ← holding [ov] (getMethod ov m pl)
      callWith pos f first (backTo pos (starEach [] X.env)) (backToKw pos (keywordEach [] X.env))) := by rfl) :
    PE X (.Call (.Attribute o m apos) [] [] pos) (tMethT X W m k' ta tNil) := by
  refine ⟨fun pins s σ H Q I h => ?_⟩
  refine PySem.W.methodCall_KW (pl := pl) (thn (he.run pins s σ H _ I h) fun u s1 ⟨x, H1, I1, rx, a, C, dx, fs, k, f, fd, ps, sp, ex, ea, l, c, hm, hb, hk, F, q⟩ => ?_) ht
  subst ex
  obtain rfl : u = Value.ref a := rx
  refine getmeth_ok I1 ea c hm l ?_
  exact PySem.W.callWith_K0 (first := [.ref a]) I1.kIn hm.kp (run_fnS (us := [.ref a]) (vs := [.ref a]) (E := WE W) F (hr.mono hk) hb (passAt tk σ) I1 (.cons rfl .nil) q)
theorem meth_read (hT : TbOk X k' m tb) {σ : L2.St} {H : Hp} {Q : VK} (t : TM X W (mMeth tb m mo as) σ H Q) : tMethT X W m k' (TM X W mo) (TAr X W as) σ H Q := by
  obtain ⟨w, G, h, g, r, o⟩ := t
  refine ⟨w, G, h, g, r, o.bindE fun d h1 v w1 H1 l r1 x o1 => ?_⟩
  split at o1
  · rename_i n
    obtain ⟨rfl, hn⟩ := rv_loc x
    split at o1
    · rename_i C fs ec
      split at o1
      · rename_i fn ef
        split at o1
        · rename_i el
          obtain ⟨_, Ca, dx, fv, e1, e2, e3, ra, _⟩ := r1.cell n _ ec
          obtain ⟨k, ps, hk, M⟩ := hT C fn ef
          obtain ⟨c, f, fd, hm, hb, F⟩ := M.get Ca e1
          refine ⟨_, Ca, dx, fv, k, f, fd, ps, _, rfl, e2, (rep_lookup m e3 ra).2 el, c, hm, hb, hk, F, w1, G, h1, g.mono l, r1, o1.bindA fun ds h2 vs w2 H2 l2 r2 rs o2 => ⟨w2, .loc n :: ds, h2, .cons (Rv_mono l2 x) rs, r2, ?_⟩⟩
          cases em : fn (.loc n :: ds) h2 with
          | ok d h3 => rw [em] at o2; exact o2
          | exc c fs h3 => rw [em] at o2; exact o2
          | stuck => rw [em] at o2; exact o2
        · exact o1.elim
      · exact o1.elim
    · exact o1.elim
  · exact o1.elim
theorem e_meth (hT : TbOk X k' m tb) (hr : Room k' X.A) (tk : Takes X W) (he : PE X o (TM X W mo)) (ha : PA X (e :: es) (TAr X W as))
    (hst : starEach (e :: es) X.env = (false, eval e X.env) :: starEach es X.env := by rfl) (hpl : (backTo pos (starEach es X.env)).any (·.1) = false := by rfl)
    (ht : eval (.Call (.Attribute o m apos) (e :: es) [] pos) X.env = (do
      let ov ← eval o X.env
      standAt apos.atName
      let (f, first) ← holding [ov] (getMethod ov m pl)
      callWith pos f first (backTo pos (starEach (e :: es) X.env)) (backToKw pos (keywordEach [] X.env))) := by rfl) :
    PE X (.Call (.Attribute o m apos) (e :: es) [] pos) (TM X W (mMeth tb m mo as)) := (pe_methT he hr tk ha hst hpl ht).wk fun σ H Q t => meth_read hT t
theorem e_meth0 (hT : TbOk X k' m tb) (hr : Room k' X.A) (tk : Takes X W) (he : PE X o (TM X W mo))
    (ht : eval (.Call (.Attribute o m apos) [] [] pos) X.env = (do
      let ov ← eval o X.env
      standAt apos.atName
      let (f, first) ← holding [ov] (getMethod ov m pl)
      callWith pos f first (backTo pos (starEach [] X.env)) (backToKw pos (keywordEach [] X.env))) := by rfl) :
    PE X (.Call (.Attribute o m apos) [] [] pos) (TM X W (mMeth tb m mo aNil)) := (pe_methT0 he hr tk ht).wk fun σ H Q t => by
  obtain ⟨w, G, h, g, r, o⟩ := meth_read (as := aNil) hT t
  refine ⟨w, G, h, g, r, ?_⟩
  cases em : mo G h with
  | ok d h1 =>
    rw [em] at o
    intro v w' H' l r' x
    obtain ⟨a, C, dx, fs, k, f, fd, ps, sp, q1, q2, q3, q4, q5, q6, q7, q8, q9⟩ := o v w' H' l r' x
    refine ⟨a, C, dx, fs, k, f, fd, ps, sp, q1, q2, q3, q4, q5, q6, q7, q8, ?_⟩
    obtain ⟨w3, G3, h3, g3, r3, o3⟩ := q9
    exact o3 [] w3 H' (Le.refl _) r3 .nil
  | exc c fs h1 => rw [em] at o; exact o
  | stuck => rw [em] at o; exact o
end
/-! ### making -/
noncomputable def tMakeT (C : Addr) (W : WX) (sp : Sp) (t : TA) : TE := fun σ H Q => t σ H fun vs H1 => ∀ x dx, H1 x = none → H1 dx = none → dx ≠ x →
  sp (.ref x :: vs) (upd (upd H1 dx (.own x)) x (.ins C dx [])) (fun v H2 => v = .non ∧ Q (.ref x) H2) (WE W σ)
section
variable {X : Cx} {W : WX} {x : Str} {k k' : Nat} {f C : Addr} {fd : FuncData} {ps : List Str} {sp : Sp} {e : Expr} {es : List Expr} {t : TA} {p pos : Pos} {as : MeL} {fn : Fn}
theorem run_makeS {pins : List (Addr × Obj)} {σ : L2.St} {H : Hp} {s : Shared} {Q : VK} {us : List Value} {vs : List V} {E : XK} (M : Mk X.K C f) (F : FnOk X.prog X.w X.K X.mg X.base (L2.CX X.prog X.w) k f fd ps sp) (hr : Room (k + 1) X.A) (hb : Binds X.K fd ps [])
    (hx : PassesAt (L2.CX X.prog X.w) X σ E) (I : Inv X pins σ H s) (r : Vals vs us)
    (hx2 : ∀ (pins : List (Addr × Obj)) (H : Hp) (s : Shared) (e : Value) (s' : Shared), Inv X pins σ H s → L2.CX X.prog X.w X.stack H s E e s' → X.xe e s')
    (h : ∀ x dx, H x = none → H dx = none → dx ≠ x → sp (.ref x :: vs) (upd (upd H dx (.own x)) x (.ins C dx [])) (fun v H2 => v = .non ∧ Q (.ref x) H2) E) :
    wpAny (model X.prog X.w) X.A (call (.ref C) us) (EP X pins σ Q) X.xe s := by
  have hq := h (s.heap.objs.size + 1) s.heap.objs.size (I.hok.fresh (Nat.le_succ _)) (I.hok.fresh (Nat.le_refl _)) (Nat.ne_of_lt (Nat.lt_succ_self _))
  have I2 := Inv.made (C := C) I
  have r2 : Vals (V.ref (s.heap.objs.size + 1) :: vs) (Value.ref (s.heap.objs.size + 1) :: us) := .cons rfl r
  have hl : (Value.ref (s.heap.objs.size + 1) :: us).length = ps.length := by
    have e := r2.length
    rw [F.len _ _ _ _ hq] at e
    exact e.symm
  have b := hb (s := { s with heap := (s.heap.push PySem.W.emptyDict).push (PySem.W.instObj C s.heap.objs.size) }) (Value.ref (s.heap.objs.size + 1) :: us) I2.kIn (by rw [List.append_nil]; exact hl)
  rw [List.append_nil] at b
  refine wpAny_call (make_map (f := f) I.kIn M.makes M.init (beq_iff_eq.mp M.fn) (codeAny_mono (F.run _ X.stack _ _ ⟨Value.ref (s.heap.objs.size + 1) :: us, []⟩ (Value.ref (s.heap.objs.size + 1) :: us) _ _ E (hr.make C us [])
    (I2.env0.make C us []) b r2 hq) fun r s' hq' => ?_))
  cases r with
  | error e => exact hx2 pins _ _ e s' I2 hq'
  | ok fl =>
    cases fl with
    | ret u =>
      obtain ⟨v, H', I3, rv, ev, q3⟩ := I2.after hq'
      subst ev
      exact ⟨rv, ⟨V.ref (s.heap.objs.size + 1), H', I3, rfl, q3⟩⟩
    | next => exact False.elim hq'
    | brk => exact False.elim hq'
    | cont => exact False.elim hq'
theorem pe_makeT (M : Mk X.K C f) (F : FnOk X.prog X.w X.K X.mg X.base (L2.CX X.prog X.w) k f fd ps sp) (hr : Room (k + 1) X.A) (tk : Takes X W) (hm : X.mg x = some (.ref C)) (hb : Binds X.K fd ps [])
    (ha : PA X (e :: es) t) (hg : Gl X x := by rfl) (hdb : (x == ("__debug__" : Str)) = false := by decide) (he : starEach (e :: es) X.env = (false, eval e X.env) :: starEach es X.env := by rfl) (hpl : (backTo pos (starEach es X.env)).any (·.1) = false := by rfl) :
    PE X (.Call (.Name x p) (e :: es) [] pos) (tMakeT C W sp t) := by
  refine ⟨fun pins s σ H Q I h => ?_⟩
  refine wpAny_Call_Name_kw (ld_glob I hg hm ?_ hdb)
  refine PySem.W.callWith_K (h₀ := X.base) I.ok.mod.kin M.kp (thn (ha.run pos pins s σ H _ I h) fun us s1 ⟨vs, H1, I1, r, q⟩ => ⟨I1.kIn, ?_⟩) he hpl
  exact run_makeS M F hr hb (passAt tk σ) I1 r (passAt tk σ) q
theorem e_make {C0 : Str} (M : MakOk X.prog X.w X.K X.mg X.base C0 k ps (spM X.K X.mg fn)) (hr : Room k' X.A) (tk : Takes X W) (ha : PA X (e :: es) (TAr X W as)) (hk : k + 1 ≤ k' := by first | decide | omega)
    (hg : Gl X C0 := by rfl) (hdb : (C0 == ("__debug__" : Str)) = false := by decide) (he : starEach (e :: es) X.env = (false, eval e X.env) :: starEach es X.env := by rfl) (hpl : (backTo pos (starEach es X.env)).any (·.1) = false := by rfl) :
    PE X (.Call (.Name C0 p) (e :: es) [] pos) (TM X W (mMake C0 fn as)) := by
  obtain ⟨Ca, f, fd, hn, hm, MM, hb, F⟩ := M.ex
  refine (pe_makeT MM F (hr.mono hk) tk hm hb ha hg hdb he hpl).wk fun σ H Q ⟨w, G, h, g, r, o⟩ => ⟨w, G, h, g, r, o.bindA fun ds h1 vs w1 H1 l r1 rs o1 => fun x dx nx ndx nex => ?_⟩
  have rA := r1.add (o := .own x) ndx
  have lA := r1.le_add (o := HO.own x) ndx
  have nx2 : upd H1 dx (.own x) x = none := by
    rw [upd_ne (Ne.symm nex)]
    exact nx
  have rB := rA.newO (u := .ins Ca dx []) (o := .ins C0 []) nx2 ⟨Ca, dx, [], hn, upd_same, rfl, .nil, upd_same⟩
  have lB : Le w1 ((w1.add dx (.own x)).push x) := lA.trans (Wd.le_push _ _)
  have hN : (w1.add dx (.own x)).N = h1.length := r1.len
  have rx := rv_new (K := X.K) (w := w1.add dx (.own x)) x
  rw [hN] at rx
  refine ⟨_, .loc h1.length :: ds, h1 ++ [.ins C0 []], .cons rx (Ra_mono lB rs), rB, ?_⟩
  cases em : fn (.loc h1.length :: ds) (h1 ++ [.ins C0 []]) with
  | ok d h3 =>
    rw [em] at o1
    intro v w4 H4 l4 r4 x4
    cases d with
    | non =>
      cases x4
      refine ⟨rfl, o1 _ w4 H4 (lB.trans l4) r4 (Rv_mono l4 rx)⟩
    | _ => exact o1.elim
  | exc c fs h3 =>
    rw [em] at o1
    intro cls dd w4 H4 e4 l4 r4 x4
    exact o1 cls dd w4 H4 e4 (lB.trans l4) r4 x4
  | stuck => rw [em] at o1; exact o1.elim
end
end AB
/-! AB: dicts whose keys are ints and texts, as objects of the machine. -/
namespace AB
open PySem PySem.Spec PyProof.Rows L2

noncomputable abbrev KD := List (L2.Key × D)
noncomputable def keyD : L2.Key → D
  | .inl i => .int i
  | .inr x => .str x
noncomputable def toKey : D → Option L2.Key
  | .int i => some (.inl i)
  | .str x => some (.inr x)
  | _ => none
noncomputable def valD (kvs : KD) (k : L2.Key) : Option D := (kvs.find? fun kv => decide (kv.1 = k)).map (·.2)
noncomputable def putKD (kvs : KD) (k : L2.Key) (d : D) : KD := if (kvs.any fun kv => decide (kv.1 = k)) = true then kvs.map (fun kv => if kv.1 = k then (kv.1, d) else kv) else kvs ++ [(k, d)]
section
variable {K : PySem.W.Frag} {G : Hp} {mu : Nat → Addr} {N : Nat}
theorem toKey_rep {v : V} {d : D} {k : L2.Key} (r : RepV K G mu N v d) (e : toKey d = some k) : v = kV k := by
  cases r <;> first | (cases e; rfl) | cases e
theorem keyD_rep (k : L2.Key) : RepV K G mu N (kV k) (keyD k) := by
  cases k with
  | inl i => exact .int i
  | inr x => exact .str x
theorem any_keys (k : L2.Key) : ∀ {kv : List (L2.Key × V)} {kvs : KD}, kv.map (·.1) = kvs.map (·.1) → (kv.any fun x => decide (x.1 = k)) = (kvs.any fun x => decide (x.1 = k))
  | [], [], _ => rfl
  | [], _ :: _, e => by cases e
  | _ :: _, [], e => by cases e
  | (g, v) :: fv, (g', d) :: fs, e => by
    rw [List.map_cons, List.map_cons] at e
    obtain ⟨e1, e2⟩ := List.cons.inj e
    have e1 : g = g' := e1
    subst e1
    rw [List.any_cons, List.any_cons, any_keys k e2]
theorem rep_mapK (k : L2.Key) {v : V} {d : D} (rv : RepV K G mu N v d) : ∀ {kv : List (L2.Key × V)} {kvs : KD}, kv.map (·.1) = kvs.map (·.1) → RepAll K G mu N (kv.map (·.2)) (kvs.map (·.2)) →
    (kv.map fun x => if x.1 = k then (x.1, v) else x).map (·.1) = (kvs.map fun x => if x.1 = k then (x.1, d) else x).map (·.1) ∧ RepAll K G mu N ((kv.map fun x => if x.1 = k then (x.1, v) else x).map (·.2)) ((kvs.map fun x => if x.1 = k then (x.1, d) else x).map (·.2))
  | [], [], _, _ => ⟨rfl, .nil⟩
  | [], _ :: _, e, _ => by cases e
  | _ :: _, [], e, _ => by cases e
  | (g, x) :: fv, (g', y) :: fs, e, r => by
    rw [List.map_cons, List.map_cons] at e r
    cases r with
    | cons r1 r2 =>
      obtain ⟨e1, e2⟩ := List.cons.inj e
      have e1 : g = g' := e1
      subst e1
      obtain ⟨i1, i2⟩ := rep_mapK k rv e2 r2
      rw [List.map_cons, List.map_cons, List.map_cons, List.map_cons, List.map_cons, List.map_cons]
      by_cases c : g = k
      · rw [if_pos c, if_pos c]
        exact ⟨by rw [i1], .cons rv i2⟩
      · rw [if_neg c, if_neg c]
        exact ⟨by rw [i1], .cons r1 i2⟩
theorem rep_putK (k : L2.Key) {v : V} {d : D} (rv : RepV K G mu N v d) {kv : List (L2.Key × V)} {kvs : KD} (e : kv.map (·.1) = kvs.map (·.1)) (r : RepAll K G mu N (kv.map (·.2)) (kvs.map (·.2))) :
    (putK kv k v).map (·.1) = (putKD kvs k d).map (·.1) ∧ RepAll K G mu N ((putK kv k v).map (·.2)) ((putKD kvs k d).map (·.2)) := by
  unfold putK putKD
  rw [any_keys k e]
  by_cases c : (kvs.any fun x => decide (x.1 = k)) = true
  · rw [if_pos c, if_pos c]
    exact rep_mapK k rv e r
  · rw [if_neg c, if_neg c]
    refine ⟨by rw [List.map_append, List.map_append, e]; rfl, ?_⟩
    rw [List.map_append, List.map_append]
    exact r.append (.cons rv .nil)
end
/-- the dict at n, locked or not -/
noncomputable def dctAt (h : AH) (n : Nat) : Option KD := match h[n]? with
  | some (.dct kvs) => some kvs
  | some (.lck kvs) => some kvs
  | _ => none
theorem dct_rd {K : PySem.W.Frag} {w : Wd} {H : Hp} {h : AH} {n : Nat} {kvs : KD} (r : RepH K w H h) (e : dctAt h n = some kvs) : ∃ kv, Rd H (w.mu n) (.dK kv) ∧ kv.map (·.1) = kvs.map (·.1) ∧ Ra K w (kv.map (·.2)) (kvs.map (·.2)) := by
  unfold dctAt at e
  split at e
  · rename_i ks ek
    cases e
    obtain ⟨_, kv, e1, e2, ra⟩ := r.cell n _ ek
    exact ⟨kv, .inl e1, e2, ra⟩
  · rename_i ks ek
    cases e
    obtain ⟨_, o, kv, e1, _, e2, ra⟩ := r.cell n _ ek
    exact ⟨kv, .inr ⟨o, e1⟩, e2, ra⟩
  · cases e
/-- {} -/
noncomputable def mDNew : Me := fun _ h => .ok (.loc h.length) (h ++ [.dct []])
/-- d[k] = v -/
noncomputable def sDPutM (o k v : Me) : Ms := fun G h => (v G h).toS G fun x h1 => (o G h1).toS G fun d h2 => (k G h2).toS G fun j h3 => match d with
  | .loc n => match h3[n]?, toKey j with
    | some (.dct kvs), some q => if kvs.length < big then .next G (h3.set n (.dct (putKD kvs q x))) else .stuck
    | _, _ => .stuck
  | _ => .stuck
/-- d.setdefault(k, x) -/
noncomputable def mDSetd (o k x : Me) : Me := fun G h => (o G h).bind fun d h1 => match d with
  | .loc n => match dctAt h1 n with
    | some _ => (k G h1).bind fun j h2 => (x G h2).bind fun z h3 => match h3[n]?, toKey j with
      | some (.dct kvs), some q => if kvs.length < big then (match valD kvs q with
        | some y => .ok y h3
        | none => .ok z (h3.set n (.dct (putKD kvs q z)))) else .stuck
      | _, _ => .stuck
    | none => .stuck
  | _ => .stuck
section
variable {X : Cx} {W : WX} {o i e f value : Expr} {pos pos' tpos apos cpos : Pos} {mo mk mv mx : Me}
theorem e_dnew : PE X (.Dict [] [] pos) (TM X W mDNew) := by
  refine pe_dnewK.wk fun σ H Q ⟨w, G, h, g, r, o⟩ => fun p hp => ?_
  have r1 := r.newO (u := .dK []) (o := .dct []) hp ⟨[], upd_same, rfl, .nil⟩
  have rx := rv_new (K := X.K) (w := w) p
  rw [r.len] at rx
  exact o (.ref p) (w.push p) _ (w.le_push p) r1 rx
theorem set_dct {w : Wd} {H : Hp} {h : AH} {n : Nat} {kvs : KD} {kv : List (L2.Key × V)} (r : RepH X.K w H h) (hn : n < w.N) (e2 : kv.map (·.1) = kvs.map (·.1)) (ra : Ra X.K w (kv.map (·.2)) (kvs.map (·.2))) :
    RepH X.K w (upd H (w.mu n) (.dK kv)) (h.set n (.dct kvs)) := r.set hn ⟨kv, upd_same, e2, ra⟩
theorem kv_len {kv : List (L2.Key × V)} {kvs : KD} (e : kv.map (·.1) = kvs.map (·.1)) : kv.length = kvs.length := by
  have := congrArg List.length e
  simpa using this
theorem s_dput (hu : X.A.units + 1 < cLine) (ho : PE X o (TM X W mo)) (hi : PE X i (TM X W mk)) (hv : PE X value (TM X W mv)) (hs : swapsWith value (some (.Subscript o i pos')) pos.line X.env = pure false := by rfl) :
    PS X (.Assign [.Subscript o i pos'] value pos) (TSS X W (sDPutM mo mk mv)) := by
  refine (ps_dput hu ho hi hv hs).wk fun D σ H ⟨w, G, h, g, r, o⟩ => ⟨w, G, h, g, r, OutS.bindE (m := mv) g o fun x h1 v w1 H1 l1 r1 rx o1 => ?_⟩
  have g1 := g.mono l1
  refine ⟨w1, G, h1, g1, r1, OutS.bindE (m := mo) g1 o1 fun d h2 v2 w2 H2 l2 r2 rd o2 => ?_⟩
  have g2 := g1.mono l2
  refine ⟨w2, G, h2, g2, r2, OutS.bindE (m := mk) g2 o2 fun j h3 v3 w3 H3 l3 r3 rj o3 => ?_⟩
  split at o3
  · rename_i n
    obtain ⟨rfl, hn⟩ := rv_loc rd
    split at o3
    · rename_i kvs q e1 e2
      split at o3
      · rename_i hl
        obtain ⟨_, kv, f1, f2, ra⟩ := r3.cell n _ e1
        have ey := toKey_rep rj e2
        subst ey
        have emu : w3.mu n = w2.mu n := l3.mu n hn
        have hn3 : n < w3.N := Nat.lt_of_lt_of_le hn l3.n
        obtain ⟨p1, p2⟩ := rep_putK q (Rv_mono (l2.trans l3) rx) f2 ra
        refine ⟨_, upd H3 (w3.mu n) (.dK (putK kv q v)), rfl, .inl ⟨kv, q, ?_, rfl, big_lt (by rw [kv_len f2]; exact hl), ?_⟩, ?_⟩
        · rw [← emu]; exact f1
        · rw [emu]
        · exact o3 σ w3 _ (Le.refl _) (g2.mono l3) (set_dct r3 hn3 p1 p2)
      · exact o3.elim
    · exact o3.elim
  · exact o3.elim
end
end AB
/-! AB: loops over dicts, which are locked meanwhile. -/
namespace AB
open PySem PySem.Spec PyProof.Rows L2

noncomputable def pickI (kv : L2.Key × D) : D := .tup [keyD kv.1, kv.2]
noncomputable def pickK (kv : L2.Key × D) : D := keyD kv.1
noncomputable def pickV (kv : L2.Key × D) : D := kv.2
open Classical in
noncomputable def forGoD (p : Pat) (body : Ms) (pick : L2.Key × D → D) (n : Nat) (kvs : KD) : KD → Env → AH → SR
  | [], G, h => if h[n]? = some (.lck kvs) then .next G (h.set n (.dct kvs)) else .stuck
  | x :: r, G, h => if h[n]? = some (.lck kvs) then
      match asg p (pick x) G with
      | some G1 => match body G1 h with
        | .next G2 h2 => forGoD p body pick n kvs r G2 h2
        | .cont G2 h2 => forGoD p body pick n kvs r G2 h2
        | .brk G2 h2 => if h2[n]? = some (.lck kvs) then .next G2 (h2.set n (.dct kvs)) else .stuck
        | .ret d h2 => if h2[n]? = some (.lck kvs) then .ret d (h2.set n (.dct kvs)) else .stuck
        | _ => .stuck
      | none => .stuck
    else .stuck
open Classical in
/-- for .. in d.items() (keys, values): d is a plain thing, a name or an attribute -/
noncomputable def sForD (pick : L2.Key × D → D) (p : Pat) (o : Me) (body : Ms) : Ms := fun G h => match o G h with
  | .ok (.loc n) h1 => if h1 = h then (match h[n]? with
    | some (.dct kvs) => if o G (h.set n (.lck kvs)) = .ok (.loc n) (h.set n (.lck kvs)) then forGoD p body pick n kvs kvs G (h.set n (.lck kvs)) else .stuck
    | _ => .stuck) else .stuck
  | _ => .stuck
/-- other locks -/
noncomputable def Wd.lkd (w : Wd) (L : Hp) : Wd := ⟨w.S, w.F, w.mu, w.N, L⟩
section
variable {K : PySem.W.Frag} {w : Wd} {H : Hp} {h : AH}
theorem RepH.relk (r : RepH K w H h) {n : Nat} {u : HO} {o : AO} {L : Hp} (hn : n < w.N) (hL : ∀ a, a ≠ w.mu n → L a = w.LK a) (ro : RepO K (w.lkd L) (upd H (w.mu n) u) (w.mu n) o) : RepH K (w.lkd L) (upd H (w.mu n) u) (h.set n o) := by
  refine ⟨fun a x e => ?_, by rw [List.length_set]; exact r.len, r.inj, fun m o' e => ?_, fun a x e => by rw [upd_ne (fun z => (r.dis a x e).2 n hn z.symm)]; exact r.exF _ _ e, r.dis⟩
  · have hl : n < h.length := by rw [← r.len]; exact hn
    obtain ⟨z, _⟩ := r.cell n h[n] (List.getElem?_eq_getElem hl)
    have q : a ≠ w.mu n := by
      intro y
      have e : w.S a = some x := e
      rw [y, z] at e
      cases e
    rw [upd_ne q]
    exact r.ex _ _ e
  · by_cases hm : m = n
    · subst hm
      have hl : m < h.length := by rw [← r.len]; exact hn
      obtain ⟨z, _⟩ := r.cell m h[m] (List.getElem?_eq_getElem hl)
      rw [List.getElem?_set_self hl] at e
      cases e
      exact ⟨z, ro⟩
    · rw [List.getElem?_set_ne (Ne.symm hm)] at e
      obtain ⟨a, b⟩ := r.cell m o' e
      have hl : m < w.N := by rw [r.len]; exact (List.getElem?_eq_some_iff.mp e).1
      have hne : w.mu m ≠ w.mu n := fun z => hm (r.inj m n hl hn z)
      refine ⟨a, ?_⟩
      have b2 : RepO K w (upd H (w.mu n) u) (w.mu m) o' := b.mono (Le.refl w) (upd_ne hne)
      show RepO K (w.lkd L) (upd H (w.mu n) u) (w.mu m) o'
      cases o' with
      | lst ds => exact b2
      | ins C fs => exact b2
      | dct kvs => exact b2
      | lck kvs =>
        obtain ⟨o, kv, e1, e0, e2, ra⟩ := b2
        exact ⟨o, kv, e1, (hL _ hne).trans e0, e2, ra⟩
      | hld ks => exact b2
end
section
variable {X : Cx} {W : WX} {tg iter e : Expr} {body : List Stmt} {pos apos cpos : Pos} {p : Pat} {mo : Me} {mb : Ms} {pick : L2.Key × D → D}
/-- what is walked of the locked dict at a -/
structure WalksD (K : PySem.W.Frag) (J : Addr → Obj → List (L2.Key × V) → It) (pick : L2.Key × D → D) : Prop where
  go : ∀ d o kvs i H, H d = some (.frz o (.dK kvs)) → i < kvs.length → (J d o kvs).go i H
  stop : ∀ d o kvs i H, H d = some (.frz o (.dK kvs)) → kvs.length ≤ i → (J d o kvs).stop i H
  yld : ∀ (w : Wd) (h : AH) d o kvs (ks : KD) i H x H2 kd, RepH K w H h → (J d o kvs).yld i H x H2 → kvs.map (·.1) = ks.map (·.1) → Ra K w (kvs.map (·.2)) (ks.map (·.2)) → ks[i]? = some kd →
    ∃ w2, Le w w2 ∧ RepH K w2 H2 h ∧ Rv K w2 x (pick kd)
theorem at_both {K : PySem.W.Frag} {w : Wd} {kvs : List (L2.Key × V)} {ks : KD} {i : Nat} {kd : L2.Key × D} {k : L2.Key} {v : V} (e : kvs.map (·.1) = ks.map (·.1)) (ra : Ra K w (kvs.map (·.2)) (ks.map (·.2))) (h1 : ks[i]? = some kd) (h2 : kvs[i]? = some (k, v)) :
    k = kd.1 ∧ Rv K w v kd.2 := by
  have q1 : (kvs.map (·.1))[i]? = some k := by rw [List.getElem?_map, h2]; rfl
  rw [e, List.getElem?_map, h1] at q1
  have q2 : (ks.map (·.2))[i]? = some kd.2 := by rw [List.getElem?_map, h1]; rfl
  obtain ⟨u, e1, ru⟩ := ra.get q2
  rw [List.getElem?_map, h2] at e1
  cases q1
  cases e1
  exact ⟨rfl, ru⟩
theorem walks_items {K : PySem.W.Frag} : WalksD K Iti pickI := by
  refine ⟨fun d o kvs i H h1 h2 => ⟨h1, h2⟩, fun d o kvs i H h1 h2 => ⟨h1, h2⟩, ?_⟩
  rintro w h d o kvs ks i H x H2 kd r ⟨T, k, v, e1, rfl, e2, rfl⟩ e ra ek
  obtain ⟨rfl, rv⟩ := at_both e ra ek e1
  refine ⟨w.add T (.tup [kV kd.1, v]), r.le_add e2, r.add e2, .tup (.inl (.inl upd_same)) (.cons (Rv_mono (r.le_add e2) (keyD_rep kd.1)) (.cons (Rv_mono (r.le_add e2) rv) .nil))⟩
theorem walks_vals {K : PySem.W.Frag} : WalksD K Itd pickV := by
  refine ⟨fun d o kvs i H h1 h2 => ⟨h1, h2⟩, fun d o kvs i H h1 h2 => ⟨h1, h2⟩, ?_⟩
  rintro w h d o kvs ks i H x H2 kd r ⟨rfl, k, e1⟩ e ra ek
  obtain ⟨rfl, rv⟩ := at_both e ra ek e1
  exact ⟨w, Le.refl _, r, rv⟩
theorem s_forD {J : Addr → Obj → List (L2.Key × V) → It} (wk : WalksD X.K J pick) {ti : TI} (hti : ∀ σ H (R : It → Hp → Prop), (TM X W mo σ H fun x H1 => ∃ d o kvs, x = .ref d ∧ H1 d = some (.frz o (.dK kvs)) ∧ R (J d o kvs) H1) → ti σ H R)
    (hp : PassesOwn (model X.prog X.w) X.A X.env X.xe) (hi : PI X tg iter ti) (hg : PG X tg (gP X.K p)) (hb : PSs X body (TSS X W mb)) (hc : X.calm = true := by rfl) (hs : ∀ x, foldedSetIterable iter X.env x = pure x := by intro _; rfl) :
    PS X (.For tg iter body [] pos) (TSS X W (sForD pick p mo mb)) := by
  refine (ps_lock (ps_for hp hc hi hg hb hs)).wk fun D σ H ⟨w, G, h, g, r, o⟩ => ?_
  unfold sForD at o
  split at o
  · rename_i n h1 eo
    split at o
    · rename_i eh
      subst eh
      split at o
      · rename_i kvs ec
        split at o
        · rename_i eo2
          have hn : n < w.N := by rw [r.len]; exact (List.getElem?_eq_some_iff.mp ec).1
          obtain ⟨sN, kv, e1, e2, ra⟩ := r.cell n _ ec
          refine ⟨w.mu n, .dK kv, e1, trivial, fun od => ?_⟩
          obtain ⟨wL, hwL⟩ : ∃ wL, wL = w.lkd (upd w.LK (w.mu n) (.frz od (.dK kv))) := ⟨_, rfl⟩
          have rL : RepH X.K wL (upd H (w.mu n) (.frz od (.dK kv))) (h1.set n (.lck kvs)) := by
            rw [hwL]
            exact r.relk hn (fun a ha => upd_ne ha) ⟨od, kv, upd_same, upd_same, e2, ra⟩
          have gL : RepG X.K wL σ G := by rw [hwL]; exact g
          have hnL : n < wL.N := by rw [hwL]; exact hn
          have muL : wL.mu n = w.mu n := by rw [hwL]; rfl
          have lkL : wL.LK = upd w.LK (w.mu n) (.frz od (.dK kv)) := by rw [hwL]; rfl
          -- the locked dict later
          have back : ∀ w' H' h', Le wL w' → RepH X.K w' H' h' → h'[n]? = some (.lck kvs) → w'.mu n = w.mu n ∧ H' (w.mu n) = some (.frz od (.dK kv)) ∧ Ra X.K w' (kv.map (·.2)) (kvs.map (·.2)) := by
            intro w' H' h' l' r' e'
            obtain ⟨_, o', kv', f1, f0, f2, ra'⟩ := r'.cell n _ e'
            have em : w'.mu n = w.mu n := (l'.mu n hnL).trans muL
            rw [em, l'.lk, lkL, upd_same] at f0
            cases f0
            rw [em] at f1
            exact ⟨em, f1, ra'⟩
          -- the unlocked state
          have un : ∀ w' H' h', Le wL w' → RepH X.K w' H' h' → h'[n]? = some (.lck kvs) → Le w (w'.lkd w.LK) ∧ RepH X.K (w'.lkd w.LK) (upd H' (w.mu n) (.dK kv)) (h'.set n (.dct kvs)) := by
            intro w' H' h' l' r' e'
            obtain ⟨em, f1, ra'⟩ := back w' H' h' l' r' e'
            have hn' : n < w'.N := Nat.lt_of_lt_of_le hnL l'.n
            refine ⟨⟨?_, ?_, ?_, ?_, rfl⟩, ?_⟩
            · have := l'.ex; rw [hwL] at this; exact this
            · have := l'.n; rw [hwL] at this; exact this
            · have := l'.mu; rw [hwL] at this; exact this
            · have := l'.f; rw [hwL] at this; exact this
            · rw [← em]
              exact r'.relk hn' (fun a ha => by
                rw [l'.lk, lkL, upd_ne]
                rw [← em]
                exact ha) ⟨kv, upd_same, e2, ra'⟩
          have endN : ∀ {G2 : Env} {h2 : AH} {w2 : Wd} {σ2 : L2.St} {H2 : Hp}, h2[n]? = some (.lck kvs) → OutS X.K X.mg W D w (.next G2 (h2.set n (.dct kvs))) → Le wL w2 → RepG X.K w2 σ2 G2 → RepH X.K w2 H2 h2 →
              H2 (w.mu n) = some (.frz od (.dK kv)) ∧ D.nx σ2 (upd H2 (w.mu n) (.dK kv)) := by
            intro G2 h2 w2 σ2 H2 e' o' l' g' r'
            obtain ⟨u1, u2⟩ := un w2 H2 h2 l' r' e'
            exact ⟨(back w2 H2 h2 l' r' e').2.1, o' σ2 _ _ u1 g' u2⟩
          refine hti _ _ _ ⟨wL, G, _, gL, rL, ?_⟩
          rw [eo2]
          intro v w1 H1 l1 r1 rv
          obtain ⟨rfl, hn1⟩ := rv_loc rv
          have hlc : (h1.set n (.lck kvs))[n]? = some (.lck kvs) := by
            rw [List.getElem?_set_self (by rw [← r.len]; exact hn)]
          obtain ⟨em1, f1, ra1⟩ := back w1 H1 _ l1 r1 hlc
          have hlen : kv.length = kvs.length := kv_len e2
          refine ⟨w1.mu n, od, kv, rfl, by rw [em1]; exact f1, ?_⟩
          rw [em1]
          refine ⟨fun i m σ' H' => m = kvs.length - i ∧ i ≤ kvs.length ∧ ∃ w' G' h', Le wL w' ∧ RepG X.K w' σ' G' ∧ RepH X.K w' H' h' ∧ OutS X.K X.mg W D w (forGoD p mb pick n kvs (kvs.drop i) G' h'),
            ⟨kvs.length, by simp, Nat.zero_le _, w1, G, _, l1, gL.mono l1, r1, by simpa using o⟩, ?_⟩
          rintro i m σ' H' ⟨rfl, hi2, w', G', h', l', g', r', o'⟩
          by_cases hlt : i < kvs.length
          · have ed : kvs.drop i = kvs[i] :: kvs.drop (i + 1) := List.drop_eq_getElem_cons hlt
            rw [ed] at o'
            unfold forGoD at o'
            split at o'
            · rename_i still
              obtain ⟨em', f', ra'⟩ := back w' H' h' l' r' still
              refine .inr ⟨wk.go _ _ _ i H' f' (by omega), fun σ2 H2 => ∃ w' G' h', Le wL w' ∧ RepG X.K w' σ2 G' ∧ RepH X.K w' H2 h' ∧ OutS X.K X.mg W D w (forGoD p mb pick n kvs (kvs.drop (i + 1)) G' h'),
                fun σ2 H2 hN => ⟨kvs.length - (i + 1), by omega, rfl, hlt, hN⟩, fun x H2 hy => ?_⟩
              obtain ⟨w2, l2, r2, rv2⟩ := wk.yld w' h' _ _ _ kvs i H' x H2 kvs[i] r' hy e2 ra' (List.getElem?_eq_getElem hlt)
              split at o'
              · rename_i G1 ea
                refine asg_rep r2 p (pick kvs[i]) x σ' G' G1 _ rv2 (g'.mono l2) ea fun σ3 g3 _ => ?_
                refine ⟨w2, G1, h', g3, r2, ?_⟩
                cases eb : mb G1 h' with
                | next G2 h2 =>
                  rw [eb] at o'
                  exact fun σ4 w4 H4 l4 g4 r4 => ⟨w4, G2, h2, l'.trans (l2.trans l4), g4, r4, o'⟩
                | cont G2 h2 =>
                  rw [eb] at o'
                  exact fun σ4 w4 H4 l4 g4 r4 => ⟨w4, G2, h2, l'.trans (l2.trans l4), g4, r4, o'⟩
                | brk G2 h2 =>
                  rw [eb] at o'
                  simp only at o'
                  split at o'
                  · rename_i e'
                    exact fun σ4 w4 H4 l4 g4 r4 => endN e' o' (l'.trans (l2.trans l4)) g4 r4
                  · exact o'.elim
                | ret d h2 =>
                  rw [eb] at o'
                  simp only at o'
                  split at o'
                  · rename_i e'
                    intro v4 w4 H4 l4 r4 x4
                    have l5 := l'.trans (l2.trans l4)
                    obtain ⟨u1, u2⟩ := un w4 H4 h2 l5 r4 e'
                    exact ⟨(back w4 H4 h2 l5 r4 e').2.1, o' v4 (w4.lkd w.LK) _ u1 u2 x4⟩
                  · exact o'.elim
                | exc c fs G2 h2 => rw [eb] at o'; exact o'.elim
                | stuck => rw [eb] at o'; exact o'.elim
              · exact o'.elim
            · exact o'.elim
          · have e : i = kvs.length := by omega
            subst e
            rw [List.drop_length] at o'
            unfold forGoD at o'
            split at o'
            · rename_i still
              obtain ⟨em', f', ra'⟩ := back w' H' h' l' r' still
              exact .inl ⟨wk.stop _ _ _ _ H' f' (by omega), endN still o' l' g' r'⟩
            · exact o'.elim
        · exact o.elim
      · exact o.elim
    · exact o.elim
  · exact o.elim
theorem s_forItems {elts : List Expr} {kk : Nat} {tpos : Pos} (hp : PassesOwn (model X.prog X.w) X.A X.env X.xe) (he : PE X e (TM X W mo)) (hg : PG X (.Tuple elts kk tpos) (gP X.K p)) (hb : PSs X body (TSS X W mb)) (hc : X.calm = true := by rfl)
    (hbase : attributeBase e "items" X.env (eval e X.env) = eval e X.env := by rfl) (hline : (apos.endLine == cpos.line) = true := by rfl)
    (hs : ∀ x, foldedSetIterable (.Call (.Attribute e "items" apos) [] [] cpos) X.env x = pure x := by intro _; rfl) :
    PS X (.For (.Tuple elts kk tpos) (.Call (.Attribute e "items" apos) [] [] cpos) body [] pos) (TSS X W (sForD pickI p mo mb)) :=
  s_forD walks_items (fun σ H R t => t) hp (pi_items he hbase hline) hg hb hc hs
theorem s_forVals (hp : PassesOwn (model X.prog X.w) X.A X.env X.xe) (he : PE X e (TM X W mo)) (hg : PG X tg (gP X.K p)) (hb : PSs X body (TSS X W mb)) (hc : X.calm = true := by rfl)
    (hbase : attributeBase e "values" X.env (eval e X.env) = eval e X.env := by rfl) (hline : (apos.endLine == cpos.line) = true := by rfl)
    (hs : ∀ x, foldedSetIterable (.Call (.Attribute e "values" apos) [] [] cpos) X.env x = pure x := by intro _; rfl) :
    PS X (.For tg (.Call (.Attribute e "values" apos) [] [] cpos) body [] pos) (TSS X W (sForD pickV p mo mb)) :=
  s_forD walks_vals (fun σ H R t => t) hp (pi_values he hbase hline) hg hb hc hs
end
theorem hu1 {k : Nat} {A : Around} (hr : Room k A) : A.units + 1 < cLine := by
  have := hr.un
  omega
end AB
/-! AB: try .. except C as e. -/
namespace AB
open PySem PySem.Spec PyProof.Rows L2

/-- slot i goes -/
noncomputable def wipeS (i : Nat) : SR → SR
  | .next G h => .next (G.set i none) h
  | .ret d h => .ret d h
  | .brk G h => .brk (G.set i none) h
  | .cont G h => .cont (G.set i none) h
  | _ => .stuck
@[simp] theorem wipeS_next (i : Nat) (G : Env) (h : AH) : wipeS i (.next G h) = .next (G.set i none) h := rfl
@[simp] theorem wipeS_ret (i : Nat) (d : D) (h : AH) : wipeS i (.ret d h) = .ret d h := rfl
@[simp] theorem wipeS_brk (i : Nat) (G : Env) (h : AH) : wipeS i (.brk G h) = .brk (G.set i none) h := rfl
@[simp] theorem wipeS_cont (i : Nat) (G : Env) (h : AH) : wipeS i (.cont G h) = .cont (G.set i none) h := rfl
/-- a suite, by the error's address; it does not tell which -/
noncomputable abbrev Su := Addr → Ms
noncomputable def WF : WX := fun _ _ _ _ => False
section
variable {K : PySem.W.Frag} {mg : Str → Option Value} {W : WX} {w : Wd} {i : Nat}
end
/-- the class c of an error: known, and whether the clause takes it -/
structure TkOk (K : PySem.W.Frag) (mg : Str → Option Value) (cl : Value) (c : Str) (b : Bool) : Prop where
  ex : ∃ D0, mg c = some (.ref D0) ∧ PySem.W.exmOne K (.ref D0) cl = some b
section
variable {X : Cx} {W : WX} {i : Nat} {cl : Value} {suite : List Stmt} {tb : List (Str × Option Su)} {c : Str}
variable {x n : Str} {body : List Stmt} {b₀ : Stmt} {np pos pos' : Pos} {mb : Ms}
end
/-- what the clause 'except x' says of the class c -/
structure CatK (K : PySem.W.Frag) (mg : Str → Option Value) (x c : Str) (b : Bool) : Prop where
  ex : ∀ cl, mg x = some cl → TkOk K mg cl c b
/-! ### isinstance(e, C) in the suite -/
section
variable {X : Cx} {W : WX} {a D0 : Addr} {oe : Obj} {pn : List (Addr × Obj)} {c x n : Str} {b : Bool} {p p1 p2 pos : Pos}
end
end AB
/-! AB: comprehensions over the keys of a dict, which is locked meanwhile. -/
namespace AB
open PySem PySem.Spec PyProof.Rows L2

open Classical in
noncomputable def compGoD (p : Pat) (t : MeT) (e : Me) (n : Nat) (kvs : KD) (G : Env) : KD → AH → Res (List D)
  | [], h => if h[n]? = some (.lck kvs) then .ok [] h else .stuck
  | x :: r, h => if h[n]? = some (.lck kvs) then
      match asg p (pickK x) G with
      | some G1 => (t G1 h).noX.bind fun b h1 => if b = true then (e G1 h1).noX.bind fun x h2 => (compGoD p t e n kvs G r h2).bind fun xs h3 => .ok (x :: xs) h3 else compGoD p t e n kvs G r h1
      | none => .stuck
    else .stuck
open Classical in
/-- [.. for key in d if ..]: d is a plain thing, a name or an attribute -/
noncomputable def lCompD (p : Pat) (vs : List Nat) (o : Me) (t : MeT) (e : Me) : MeL := fun G h => match o G h with
  | .ok (.loc n) h1 => if h1 = h then (match h[n]? with
    | some (.dct kvs) => if o G (h.set n (.lck kvs)) = .ok (.loc n) (h.set n (.lck kvs)) then (if kvs.length ≤ big then
        (compGoD p t e n kvs (wipeG G vs) kvs (h.set n (.lck kvs))).bind fun ys h2 => .ok ys (h2.set n (.dct kvs)) else .stuck) else .stuck
    | _ => .stuck) else .stuck
  | _ => .stuck
section
variable {X : Cx} {W : WX} {pos : Pos} {tg iter elt : Expr} {ifs : List Expr} {scope : Scope} {own : List (Str × Nat)} {p : Pat} {mo : Me} {mt : MeT} {me : Me}
end
end AB
/-! AB: dicts: len, {k: v}, {k: v for ..}; isinstance of instances. -/
namespace AB
open PySem PySem.Spec PyProof.Rows L2

/-! ### len(d) -/
noncomputable def fLenD (xs : List D) (h : AH) : Res D := match xs with
  | [.loc n] => match dctAt h n with
    | some kvs => .ok (.int kvs.length) h
    | none => .stuck
  | _ => .stuck
section
variable {X : Cx} {W : WX} {e : Expr} {as : MeL} {p pos : Pos}
end
/-! ### {k: v} -/
section
variable {X : Cx} {W : WX} {k v : Expr} {mk mv : Me} {pos : Pos}
end
/-! ### {k: v for .. in .. if ..} -/
theorem OutE.bindI {K : PySem.W.Frag} {mg : Str → Option Value} {W : WX} {w : Wd} {σ : L2.St} {G : Env} {h : AH} {m : Im} {R : It → Hp → Prop} {Q : VK} {k : List D × Option Nat → AH → Res D} (o : OutE K mg W w σ Q ((m G h).bind k))
    (hq : ∀ all src h1 J w1 H1, Le w w1 → RepH K w1 H1 h1 → Walks K J w1 all src → OutE K mg W w1 σ Q (k (all, src) h1) → R J H1) : OutI K mg W w σ R (m G h) := by
  cases e : m G h with
  | ok d h1 =>
    rw [e] at o
    exact fun J w1 H1 l r x => hq d.1 d.2 h1 J w1 H1 l r x (OutE.mono l o)
  | exc c fs h1 =>
    rw [e] at o
    exact o
  | stuck =>
    rw [e] at o
    exact o
section
variable {X : Cx} {W : WX} {pos : Pos} {tg iter kx vx : Expr} {ifs : List Expr} {scope : Scope} {own : List (Str × Nat)} {p : Pat} {im : Im} {mt : MeT} {mk mv : Me}
end
/-! ### isinstance(x, T) where x may be an instance of the classes cs (none of which is under T) -/
structure NotTy (K : PySem.W.Frag) (C : Str) (T : String) : Prop where
  ex : ∀ Ca, PySem.W.nsIn K mainGlobals C = some (some (.ref Ca)) → Cls K Ca ∧ PySem.W.findIn K (.ref Ca) "__class__" = some (some (.builtin "object.__class__")) ∧ PySem.W.specialIn K (.builtin "object.__class__") "__get__" = some (some (.builtin "getset_descriptor.__get__")) ∧
    PySem.W.takesIn K (.builtin "object.__class__") = some true ∧ PySem.W.mroIn K Ca (.type "object") = some true ∧ PySem.W.kitOne K (.ref Ca) (.type T) = some false
noncomputable def tyDC (cs : List Str) (h : AH) (T : Ty) (d : D) : Option Bool := match d with
  | .loc n => match h[n]? with
    | some (.dct _) => some (Ty.dct.sub T)
    | some (.lst _) => some (Ty.lst.sub T)
    | some (.ins C _) => if C ∈ cs then some false else none
    | _ => none
  | d => (tyD h d).map fun t => t.sub T
noncomputable def mIsiC (cs : List Str) (T : Ty) (m : Me) : Me := fun G h => (m G h).bind fun d h1 => match tyDC cs h1 T d with
  | some b => .ok (.bl b) h1
  | none => .stuck
section
variable {X : Cx} {W : WX} {e : Expr} {ma : Me} {p pos : Pos} {T : Ty}
theorem e_isiC (cs : List Str) (T : Ty) {t : Str} {pt : Pos} (hi : X.mg "isinstance" = none) (ht : X.mg t = none) (he : PE X e (TM X W ma)) (hC : AllC (fun C => NotTy X.K C T.name) cs) (hgt : Gl X t := by rfl) (hbt : bootBuiltins t = some (.type T.name) := by decide +kernel) (hg : Gl X "isinstance" := by rfl)
    (hn : t ≠ "__name__" := by decide) (hd : (t == ("__debug__" : Str)) = false := by decide)
    (h1 : starEach [e, .Name t pt] X.env = (false, eval e X.env) :: starEach [.Name t pt] X.env := by rfl) (h2 : starEach [.Name t pt] X.env = (false, eval (.Name t pt) X.env) :: starEach [] X.env := by rfl) (hpl : (backTo pos (starEach [.Name t pt] X.env)).any (·.1) = false := by rfl) :
    PE X (.Call (.Name "isinstance" p) [e, .Name t pt] [] pos) (TM X W (mIsiC cs T ma)) := by
  refine (pe_callB call_isi hg hi (by decide +kernel) (pa_cons he (pa_cons (pe_bltn (v := .ty T.name) hgt ht hbt rfl hn hd) pa_nil h2) h1) (by decide) (by decide) h1 hpl).wk fun σ H Q ⟨w, G, h, g, r, o⟩ => ⟨w, G, h, g, r, o.bindE fun d h1 v w1 H1 l r1 x o1 => ?_⟩
  split at o1
  · rename_i b eb
    have old : ∀ t, tyD h1 d = some t → b = t.sub T → ∃ (x : V) (c : V) (t : Value) (u : Value) (b : Bool), [v, .ty T.name] = [x, c] ∧ ClsV c u ∧ TyX X.K H1 x t ∧ PySem.W.kitOne X.K t u = some b ∧ Q (.bl b) H1 := fun t e q => by
      subst q
      exact ⟨v, .ty T.name, .type t.name, .type T.name, t.sub T, rfl, .ty _, tyD_rep r1 x e, kit_ty (kit_tag t T), out_ok o1 r1 (.bl _)⟩
    unfold tyDC at eb
    split at eb
    · rename_i n
      obtain ⟨rfl, hn⟩ := rv_loc x
      split at eb
      · rename_i kvs ec
        cases eb
        obtain ⟨_, kv, f1, f2, f3⟩ := r1.cell n _ ec
        exact ⟨_, .ty T.name, .type Ty.dct.name, .type T.name, _, rfl, .ty _, .base (.dK f1), kit_ty (kit_tag Ty.dct T), out_ok o1 r1 (.bl _)⟩
      · rename_i ds ec
        cases eb
        refine old .lst ?_ rfl
        show (match h1[n]? with
          | some (.lst _) => some Ty.lst
          | _ => none) = some Ty.lst
        rw [ec]
      · rename_i C fs ec
        split at eb
        · rename_i hc
          cases eb
          obtain ⟨_, Ca, dx, fv, f0, f1, f2, f3, _⟩ := r1.cell n _ ec
          obtain ⟨q1, q2, q3, q4, q5, q6⟩ := (AllC.mem hC C hc).ex Ca f0
          exact ⟨_, .ty T.name, .ref Ca, .type T.name, false, rfl, .ty _, .base (.ins f1 q1 q2 q3 q4 q5), q6, out_ok o1 r1 (.bl _)⟩
        · cases eb
      · cases eb
    · cases et : tyD h1 d with
      | none => rw [et] at eb; cases eb
      | some t =>
        rw [et] at eb
        cases eb
        exact old t et rfl
  · exact o1.elim
end
/-! ### facts of classes, by what the kit reads off the text -/
theorem kit_clsR {K : PySem.W.Frag} {C : Addr} {t : Value} {b : Bool} (hd : PySem.W.hasDictIn K C = true) (ht : PySem.W.typeIn K (.ref C) = some (.type "type")) (h4 : PySem.W.subIn K t (.ref C) = some b) : PySem.W.kitCls K t (.ref C) = some b := by
  obtain ⟨cd, hc, _⟩ := PySem.W.any_some hd
  have e2 : ((PySem.W.clsIn K C).isSome && PySem.W.typeIn K (.ref C) == some (.type "type")) = true := by rw [hc, ht] <;> rfl
  show (if ((PySem.W.clsIn K C).isSome && PySem.W.typeIn K (.ref C) == some (.type "type")) = true then PySem.W.subIn K t (.ref C) else none) = some b
  rw [if_pos e2]
  exact h4
theorem kit_oneT {K : PySem.W.Frag} {C : Addr} {t : Value} (hd : PySem.W.hasDictIn K C = true) (ht : PySem.W.typeIn K (.ref C) = some (.type "type")) (h4 : PySem.W.subIn K t (.ref C) = some true) : PySem.W.kitOne K t (.ref C) = some true := by
  unfold PySem.W.kitOne
  split
  · rfl
  · exact kit_clsR hd ht h4
/-! ### sorted(d), the keys of d ints -/
noncomputable def intKeys : KD → Option (List Int)
  | [] => some []
  | (.inl i, _) :: r => (intKeys r).map fun is => i :: is
  | _ :: _ => none
theorem intKeys_map : ∀ {kvs : KD} {is : List Int}, intKeys kvs = some is → kvs.map (·.1) = is.map Sum.inl
  | [], is, e => by cases e; rfl
  | (.inl i, d) :: r, is, e => by
    unfold intKeys at e
    cases q : intKeys r with
    | none => rw [q] at e; cases e
    | some js =>
      rw [q] at e
      cases e
      rw [List.map_cons, List.map_cons, intKeys_map q]
  | (.inr _, _) :: _, is, e => by cases e
noncomputable def sortI (is : List Int) : List Int := is.mergeSort fun a b => decide (a ≤ b)
theorem sorted_uniq : ∀ {a b : List Int}, a.Perm b → a.Pairwise (· ≤ ·) → b.Pairwise (· ≤ ·) → a = b
  | [], b, p, _, _ => (List.nil_perm.mp p).symm
  | x :: a, [], p, _, _ => absurd (List.perm_nil.mp p) (by simp)
  | x :: a, y :: b, p, g1, g2 => by
    obtain ⟨x1, h1⟩ := List.pairwise_cons.mp g1
    obtain ⟨y1, h2⟩ := List.pairwise_cons.mp g2
    have hx : x = y := by
      rcases List.mem_cons.mp (p.mem_iff.mp List.mem_cons_self) with q | q
      · exact q
      · rcases List.mem_cons.mp (p.mem_iff.mpr List.mem_cons_self) with z | z
        · exact z.symm
        · have := y1 x q
          have := x1 y z
          omega
    subst hx
    exact congrArg (x :: ·) (sorted_uniq (List.Perm.cons_inv p) h1 h2)
theorem sortI_sorted (is : List Int) : (sortI is).Pairwise (· ≤ ·) := by
  have := List.pairwise_mergeSort (le := fun a b : Int => decide (a ≤ b)) (fun a b c h1 h2 => by simp at *; omega) (fun a b => by simp; omega) is
  exact this.imp fun h => by simpa using h
section
variable {X : Cx} {W : WX} {pos p : Pos} {e : Expr} {as : MeL}
end
end AB
/-! AB: rules of simp for objects, dicts, try. -/
namespace AB
open PySem PySem.Spec PyProof.Rows L2
section
variable {G : Env} {h : AH} {m a b c : Me} {as : MeL} {n : Nat} {x y : D} {f C : Str} {cs : List Str} {tb : List (Str × Fn)}
@[simp] theorem v_mFld : mFld cs f m G h = (m G h).bind fun d h1 => match d with
  | .loc n => match h1[n]? with
    | some (.ins C fs) => if C ∈ cs then match fs.lookup f with
      | some x => .ok x h1
      | none => .stuck
      else .stuck
    | _ => .stuck
  | _ => .stuck := id rfl
@[simp] theorem v_sFld : sFldM cs f a b G h = (b G h).toS G fun x h1 => (a G h1).toS G fun d h2 => match d with
  | .loc n => match h2[n]? with
    | some (.ins C fs) => if C ∈ cs ∧ fs.length < 1000 then .next G (h2.set n (.ins C (putD f x fs))) else .stuck
    | _ => .stuck
  | _ => .stuck := id rfl
@[simp] theorem v_sFldA {g : Int → Int → Int} : sFldA g cs f a b G h = (a G h).toS G fun d h1 => match d with
  | .loc n => match h1[n]? with
    | some (.ins C fs) => if C ∈ cs then match fs.lookup f with
      | some (.int i) => (b G h1).toS G fun y h2 => match y, h2[n]? with
        | .int j, some (.ins C2 fs2) => if C2 = C ∧ fs2.length < 1000 then .next G (h2.set n (.ins C (putD f (.int (g i j)) fs2))) else .stuck
        | _, _ => .stuck
      | _ => .stuck
      else .stuck
    | _ => .stuck
  | _ => .stuck := id rfl
@[simp] theorem v_mMeth : mMeth tb f m as G h = (m G h).bind fun d h1 => match d with
  | .loc n => match h1[n]? with
    | some (.ins C fs) => match tb.lookup C with
      | some fn => match fs.lookup f with
        | none => (as G h1).bind fun xs h2 => fn (.loc n :: xs) h2
        | some _ => .stuck
      | none => .stuck
    | _ => .stuck
  | _ => .stuck := rfl
@[simp] theorem v_mMake {fn : Fn} : mMake C fn as G h = (as G h).bind fun xs h1 => (fn (.loc h1.length :: xs) (h1 ++ [.ins C []])).bind fun v h2 => match v with
  | .non => .ok (.loc h1.length) h2
  | _ => .stuck := rfl
@[simp] theorem v_mDNew : mDNew G h = .ok (.loc h.length) (h ++ [.dct []]) := rfl
@[simp] theorem v_keyI (i : Int) : toKey (.int i) = some (.inl i) := rfl
@[simp] theorem v_mIsiC (T : Ty) : mIsiC cs T m G h = (m G h).bind fun d h1 => match tyDC cs h1 T d with | some b => .ok (.bl b) h1 | none => .stuck := rfl
@[simp] theorem v_dcI {T : Ty} {i : Int} : tyDC cs h T (.int i) = some (Ty.int.sub T) := rfl
@[simp] theorem v_dcB {T : Ty} {i : Bool} : tyDC cs h T (.bl i) = some (Ty.bl.sub T) := rfl
@[simp] theorem v_dcN {T : Ty} : tyDC cs h T .non = some (Ty.non.sub T) := rfl
@[simp] theorem v_dcS {T : Ty} {i : Str} : tyDC cs h T (.str i) = some (Ty.str.sub T) := rfl
@[simp] theorem v_dcT {T : Ty} {i : List D} : tyDC cs h T (.tup i) = some (Ty.tup.sub T) := rfl
@[simp] theorem v_dcL {T : Ty} {i : List D} : tyDC cs h T (.lst i) = some (Ty.lst.sub T) := rfl
@[simp] theorem v_lenD : fLenD [.loc n] h = (match dctAt h n with
    | some kvs => .ok (.int kvs.length) h
    | none => .stuck) := rfl
theorem lt_of_get {α : Type} {l : List α} {n : Nat} {a : α} (e : l[n]? = some a) : n < l.length := (List.getElem?_eq_some_iff.mp e).1
theorem g_app {α : Type} {l t : List α} {n : Nat} {a : α} (e : l[n]? = some a) : (l ++ t)[n]? = some a := by
  rw [List.getElem?_append_left (lt_of_get e)]
  exact e
theorem s_app {α : Type} {l t : List α} {n : Nat} {a : α} (h : n < l.length) : (l ++ t).set n a = l.set n a ++ t := List.set_append_left _ _ h
end
end AB
/-! AB: dicts whose keys are None and tuples of ints. -/
namespace AB
open PySem PySem.Spec PyProof.Rows L2 HD

section
variable {K : PySem.W.Frag} {w : Wd} {H : Hp} {h : AH}
end
/-! ### {k: v}, d[k] = v, list(d) -/
section
variable {X : Cx} {W : WX} {o i e value k v : Expr} {pos pos' tpos apos cpos p : Pos} {mo mk mv : Me} {as : MeL}
end
end AB
/-! AB: loops whose source must stay by a condition of its own; enumerate over a list of the machine's. -/
namespace AB
open PySem PySem.Spec PyProof.Rows L2 HD

noncomputable abbrev ImP := Env → AH → Res (List D × (AH → Prop))
structure WalksP (K : PySem.W.Frag) (J : It) (w : Wd) (all : List D) (Cn : AH → Prop) : Prop where
  goes : ∀ i w' H' h', i < all.length → LeX w w' → RepH K w' H' h' → Cn h' → J.go i H'
  stops : ∀ w' H' h', LeX w w' → RepH K w' H' h' → Cn h' → J.stop all.length H'
  yields : ∀ i x w' H' H2 h' d, all[i]? = some d → LeX w w' → RepH K w' H' h' → Cn h' → J.yld i H' x H2 → ∃ w2, Le w' w2 ∧ RepH K w2 H2 h' ∧ Rv K w2 x d
noncomputable def OutIP (K : PySem.W.Frag) (mg : Str → Option Value) (W : WX) (w : Wd) (σ : L2.St) (R : It → Hp → Prop) : Res (List D × (AH → Prop)) → Prop
  | .ok (all, Cn) h => ∀ J w' H', Le w w' → RepH K w' H' h → WalksP K J w' all Cn → R J H'
  | .exc c fs h => OutX K mg W w σ c fs h
  | .stuck => False
theorem OutIP.mono {K : PySem.W.Frag} {mg : Str → Option Value} {W : WX} {w w' : Wd} {σ : L2.St} {R : It → Hp → Prop} {r : Res (List D × (AH → Prop))} (l : Le w w') (o : OutIP K mg W w σ R r) : OutIP K mg W w' σ R r := by
  cases r with
  | ok a h => exact fun J w2 H' l2 r x => o J w2 H' (l.trans l2) r x
  | exc c fs h => exact OutX.mono l o
  | stuck => exact o
theorem OutS.bindIP {K : PySem.W.Frag} {mg : Str → Option Value} {W : WX} {w : Wd} {σ : L2.St} {G : Env} {h : AH} {D : Ends} {m : ImP} {R : It → Hp → Prop} {k : List AB.D × (AH → Prop) → AH → SR} (g : RepG K w σ G) (o : OutS K mg W D w ((m G h).toS G k))
    (hq : ∀ all Cn h1 J w1 H1, Le w w1 → RepH K w1 H1 h1 → WalksP K J w1 all Cn → OutS K mg W D w1 (k (all, Cn) h1) → R J H1) : OutIP K mg W w σ R (m G h) := by
  cases e : m G h with
  | ok d h1 =>
    rw [e] at o
    exact fun J w1 H1 l r x => hq d.1 d.2 h1 J w1 H1 l r x (OutS.mono l o)
  | exc c fs h1 =>
    rw [e] at o
    exact fun cls dd w1 H1 e l r x => o cls dd σ w1 H1 e l (g.mono l) r x
  | stuck =>
    rw [e] at o
    exact o
section
variable {X : Cx} {W : WX} {pos : Pos} {tg iter : Expr} {body : List Stmt} {p : Pat} {im : ImP} {mb : Ms}
end
/-! ### enumerate(o), o a list of the machine's, which stays as it is meanwhile -/
theorem OutIP.bindA {K : PySem.W.Frag} {mg : Str → Option Value} {W : WX} {w : Wd} {σ : L2.St} {G : Env} {h : AH} {m : MeL} {R : List V → Hp → Prop} {Q : It → Hp → Prop} {k : List D → AH → Res (List D × (AH → Prop))} (o : OutIP K mg W w σ Q ((m G h).bind k))
    (hq : ∀ ds h1 vs w1 H1, Le w w1 → RepH K w1 H1 h1 → Ra K w1 vs ds → OutIP K mg W w1 σ Q (k ds h1) → R vs H1) : OutA K mg W w σ R (m G h) := by
  cases e : m G h with
  | ok d h1 =>
    rw [e] at o
    exact fun v w1 H1 l r x => hq d h1 v w1 H1 l r x (OutIP.mono l o)
  | exc c fs h1 =>
    rw [e] at o
    exact o
  | stuck =>
    rw [e] at o
    exact o
section
variable {X : Cx} {W : WX} {e : Expr} {as : MeL} {p pos tpos : Pos} {elts : List Expr} {kk : Nat}
end
end AB
/-! AB: sorted(set(xs)) of a list of ints. -/
namespace AB
open PySem PySem.Spec PyProof.Rows L2 HSetL

/-! ### plain: a strictly rising list of the members -/
/-! ### the calls -/
section
variable {X : Cx} {W : WX} {pos pos2 p p2 : Pos} {e : Expr} {as : MeL}
end
/-! ### xs * k, xs a list of the machine's own -/
section
variable {X : Cx} {W : WX}
end
end AB
/-! AB: xs.count(text) of a list of texts. -/
namespace AB
open PySem PySem.Spec PyProof.Rows L2
noncomputable def rCntS (K : PySem.W.Frag) : V → List V → Hp → VK → Prop := fun x xs H Q => ∃ (p : Addr) (ns : List Str) (k : Str), x = .ref p ∧ xs = [.str k] ∧ SqL K H p (ns.map V.str) ∧ Q (.int (ns.count k : Nat)) H
theorem cnt_str {k : Str} : ∀ {us : List Value} {ns : List Str}, StrsAre us ns → us.countP (PyProof.Rows.isStrOf k) = ns.count k
  | _, _, .nil => rfl
  | _, _, .cons n t h => by
    have ih := cnt_str (k := k) h
    rw [List.countP_cons, List.count_cons, ih] <;> rfl
section
variable {X : Cx} {W : WX}
theorem mt_scount : MtR X "list.count" (rCntS X.K) := by
  intro pins s σ H x xs v us Q I rx rxs h
  obtain ⟨p, ns, k, rfl, rfl, hs, q⟩ := h
  cases rx
  obtain ⟨u, rfl, ru⟩ := rxs.one
  obtain ⟨t, rfl⟩ := ru
  obtain ⟨its, rv, ⟨⟨cls, dd, data, sl⟩, n, ho, hc, hdn, hd⟩, hlen⟩ := I.list hs
  simp only at hc hd
  subst hc hd
  have hi := strs_of_vals rv
  refine call_meets PySem.F.slot_list_count ⟨_, ho, rfl⟩ PySem.F.entry_list_count (PySem.F.args_list_count_2 _ _)
    (SeqAt.list_countAt p its.toArray n dd sl (.str k t) (PyProof.Rows.isStrOf k)) ⟨ho, fun y hy => (PyProof.Rows.eq_isStrOf k t hi y (by simpa using hy)).at _ _, ?_⟩
  have ec : its.toArray.toList.countP (PyProof.Rows.isStrOf k) = ns.count k := cnt_str hi
  refine ⟨.int (ns.count k : Nat), H, I.tok _, ⟨s.toks, ?_⟩, q⟩
  show Value.int ((its.toArray.toList.countP (PyProof.Rows.isStrOf k) : Nat) : Int) s.toks = Value.int ((ns.count k : Nat) : Int) s.toks
  rw [ec]
noncomputable def strsD : List D → Option (List Str)
  | [] => some []
  | .str i :: r => (strsD r).map fun is => i :: is
  | _ :: _ => none
theorem strsD_rep {K : PySem.W.Frag} {G : Hp} {mu : Nat → Addr} {N : Nat} : ∀ {ds : List D} {is : List Str} {vs : List V}, strsD ds = some is → RepAll K G mu N vs ds → vs = is.map V.str
  | [], is, vs, e, r => by
    cases e
    cases r
    rfl
  | d :: ds, is, vs, e, r => by
    cases d with
    | str i =>
      unfold strsD at e
      cases q : strsD ds with
      | none => rw [q] at e; cases e
      | some js =>
        rw [q] at e
        cases e
        cases r with
        | cons a b =>
          cases a
          rw [strsD_rep q b]
          rfl
    | _ => cases e
noncomputable def fCntS (d : D) (xs : List D) (h : AH) : Res D := match xs with
  | [.str k] => match vL h d with
    | some ds => match strsD ds with
      | some ns => .ok (.int (ns.count k : Nat)) h
      | none => .stuck
    | none => .stuck
  | _ => .stuck
theorem fol_cntS : FolM X W fCntS (rCntS X.K) := by
  intro w h H σ Q v d vs ds rh rv ra o
  unfold fCntS at o
  split at o
  · rename_i k
    obtain ⟨u, rfl, ru⟩ := ra_one ra
    cases ru
    split at o
    · rename_i es ev
      split at o
      · rename_i ns en
        obtain ⟨a, xs, rfl, sq, ra2⟩ := vL_rep rh rv ev
        have ex := strsD_rep en ra2
        subst ex
        exact ⟨a, ns, k, rfl, rfl, sq, o _ w H (Le.refl _) rh (.int _)⟩
      · exact o.elim
    · exact o.elim
  · exact o.elim
variable {o e : Expr} {apos cpos : Pos} {ma : Me} {as : MeL}
theorem e_cntS (ho : PE X o (TM X W ma)) (ha : PA X [e] (TAr X W as))
    (hbase : attributeBase o "count" X.env (eval o X.env) = eval o X.env := by rfl)
    (hfew : ((backTo cpos (starEach [e] X.env)).all (fun x => !x.1) && (backToKw cpos (keywordEach [] X.env)).all (fun x => x.1.isSome)
      && decide (([e] : List Expr).length + ([] : List Keyword).length + (if ([] : List Keyword).isEmpty then 0 else 1) < 30)) = true := by rfl)
    (hline : (apos.endLine == cpos.line) = true := by rfl) (hs : starEach [e] X.env = (false, eval e X.env) :: starEach [] X.env := by rfl) (hplain : (backTo cpos (starEach [] X.env)).any (·.1) = false := by rfl) :
    PE X (.Call (.Attribute o "count" apos) [e] [] cpos) (TM X W (mBM fCntS ma as)) :=
  e_bm PySem.F.slot_list_count PySem.F.type_list_count mt_scount fol_cntS ho ha hbase hfew hline hs hplain
end
end AB
/-! t[::-1] of a tuple, of a list. -/
namespace HT
open PySem PySem.Spec PyProof.Rows L2
section
variable {prog : Program} {w : World} {A : Around} {E : Value → Shared → Prop} {s : Shared}
end
end HT
namespace L2
open PySem PySem.Spec PyProof.Rows
section
variable {X : Cx}
end
end L2
/-! AB: x[::-1] of a tuple or a list. -/
namespace AB
open PySem PySem.Spec PyProof.Rows L2
noncomputable def mRev (m : Me) : Me := fun G h => (m G h).bind fun x h1 => match x with
  | .tup ds => .ok (.tup ds.reverse) h1
  | d => match vL h1 d with
    | some ds => .ok (.lst ds.reverse) h1
    | none => .stuck
@[simp] theorem v_mRev {G : Env} {h : AH} {m : Me} : mRev m G h = (m G h).bind fun x h1 => match x with
  | .tup ds => .ok (.tup ds.reverse) h1
  | d => match vL h1 d with
    | some ds => .ok (.lst ds.reverse) h1
    | none => .stuck := rfl
section
variable {X : Cx} {W : WX} {e : Expr} {ma : Me} {pos : Pos}
end
end AB
/-! HHComp: {k: v for ..} whose keys are None and tuples of ints (the road is the library's for keys that are ints or texts). -/
namespace HD
open PySem PySem.Spec PyProof.Rows L2
section
variable {X : Cx}
end
end HD
/-! AB: comprehensions of held dicts, dict(d), xs.pop(), xs.pop(i), xs.index(x). -/
namespace AB
open PySem PySem.Spec PyProof.Rows L2 HD
/-! ### {k: v for ..}, keys None and tuples of ints -/
section
variable {X : Cx} {W : WX} {pos : Pos} {tg iter kx vx : Expr} {ifs : List Expr} {scope : Scope} {own : List (Str × Nat)} {p : Pat} {im : Im} {mt : MeT} {mk mv : Me}
end
/-! ### dict(d) -/
section
variable {X : Cx} {W : WX} {e o : Expr} {p pos apos cpos : Pos} {as : MeL} {ma : Me}
/-! ### xs.pop() -/
noncomputable def mPop (o : Me) : Me := fun G h => (o G h).bind fun d h1 => match d with
  | .loc n => match h1[n]? with
    | some (.lst ds) => match ds[ds.length - 1]? with
      | some x => .ok x (h1.set n (.lst ds.dropLast))
      | none => .stuck
    | _ => .stuck
  | _ => .stuck
theorem RepAll.dropLast {K : PySem.W.Frag} {G : Hp} {mu : Nat → Addr} {N : Nat} : ∀ {vs : List V} {ds : List D}, RepAll K G mu N vs ds → RepAll K G mu N vs.dropLast ds.dropLast
  | _, _, .nil => .nil
  | _, _, .cons _ .nil => .nil
  | _, _, .cons a (.cons b c) => .cons a (RepAll.dropLast (.cons b c))
theorem e_pop (ho : PE X o (TM X W ma)) (hbase : attributeBase o "pop" X.env (eval o X.env) = eval o X.env := by rfl) (hline : (apos.endLine == cpos.line) = true := by rfl) :
    PE X (.Call (.Attribute o "pop" apos) [] [] cpos) (TM X W (mPop ma)) := by
  refine (pe_bm0 PySem.F.plainAttrs_list PySem.F.slot_list_pop PySem.F.type_list_pop (mt_pop (X := X)) ho hbase hline).wk fun σ H Q ⟨w, G, h, g, r, o⟩ => ⟨w, G, h, g, r, o.bindE fun d h1 v w1 H1 l1 r1 x o1 => ?_⟩
  split at o1
  · rename_i n
    split at o1
    · rename_i ds ed
      split at o1
      · rename_i y ey
        cases x with
        | loc hn =>
          obtain ⟨_, xs, e1, rx⟩ := r1.cell n _ ed
          obtain ⟨u, hu, ru⟩ := rx.get ey
          rw [← rx.length] at hu
          refine ⟨.inl ⟨rfl, xs, .inl (.inl e1)⟩, w1.mu n, xs, u, rfl, rfl, e1, hu, out_set hn o1 r1 ru rx.dropLast⟩
      · exact o1.elim
    · exact o1.elim
  · exact o1.elim
/-! ### xs.pop(i) -/
/-! ### xs.index(x) -/
noncomputable def fIdxD (d : D) (xs : List D) (h : AH) : Res D := match vL h d, xs with
  | some ds, [x] => match okP h x with
    | some p => match toPs ds with
      | some ps => if SeqAt.shaped (.list ps) = true then (match ps.findIdx? (fun z => PyData.eqv z p) with
        | some j => .ok (.int (j : Nat)) h
        | none => .stuck) else .stuck
      | none => .stuck
    | none => .stuck
  | _, _ => .stuck
theorem fol_idxD : FolM X W fIdxD (rIndexD X.K) := by
  intro w h H σ Q v d vs ds rh rv ra o
  unfold fIdxD at o
  split at o
  · rename_i es x ev
    obtain ⟨u, rfl, ru⟩ := ra_one ra
    split at o
    · rename_i pd ep
      split at o
      · rename_i ps eps
        split at o
        · rename_i sh
          split at o
          · rename_i j ej
            obtain ⟨a, xs, rfl, sq, ra2⟩ := vL_rep rh rv ev
            obtain ⟨e1, e2⟩ := okP_some ep
            have dp := toPh_rep rh ru e1
            obtain ⟨hj, hz, hno⟩ := List.findIdx?_eq_some_iff_getElem.mp ej
            refine ⟨a, u, pd, ps, j, ps[j], rfl, rfl, .lst sq (toPs_rep rh.ex es xs ps ra2 eps), dp, sh, e2, List.getElem?_eq_getElem hj, hz, fun m z' hm he => ?_, o _ w H (Le.refl _) rh (.int _)⟩
            have h1 := hno m hm
            have h2 : m < ps.length := by omega
            rw [List.getElem?_eq_getElem h2] at he
            cases he
            simpa using h1
          · exact o.elim
        · exact o.elim
      · exact o.elim
    · exact o.elim
  · exact o.elim
theorem e_idxD (hu : X.A.units + 65 < cLine) (ho : PE X o (TM X W ma)) (ha : PA X [e] (TAr X W as))
    (hbase : attributeBase o "index" X.env (eval o X.env) = eval o X.env := by rfl)
    (hfew : ((backTo cpos (starEach [e] X.env)).all (fun x => !x.1) && (backToKw cpos (keywordEach [] X.env)).all (fun x => x.1.isSome)
      && decide (([e] : List Expr).length + ([] : List Keyword).length + (if ([] : List Keyword).isEmpty then 0 else 1) < 30)) = true := by rfl)
    (hline : (apos.endLine == cpos.line) = true := by rfl) (hs : starEach [e] X.env = (false, eval e X.env) :: starEach [] X.env := by rfl) (hplain : (backTo cpos (starEach [] X.env)).any (·.1) = false := by rfl) :
    PE X (.Call (.Attribute o "index" apos) [e] [] cpos) (TM X W (mBM fIdxD ma as)) :=
  e_bm PySem.F.slot_list_index PySem.F.type_list_index (mt_indexD hu) fol_idxD ho ha hbase hfew hline hs hplain
end
end AB
/-! AB: min of a list of data. -/
namespace AB
open PySem PySem.Spec PyProof.Rows L2
section
variable {X : Cx} {W : WX} {e : Expr} {p pos : Pos} {as : MeL}
end
end AB
/-! AB: list comprehensions whose source must stay by a condition of its own (enumerate over a list of the machine's). -/
namespace AB
open PySem PySem.Spec PyProof.Rows L2 HD
open Classical in
noncomputable def compGoP (p : Pat) (t : MeT) (e : Me) (Cn : AH → Prop) (G : Env) : List D → AH → Res (List D)
  | [], h => if Cn h then .ok [] h else .stuck
  | d :: r, h => if Cn h then
      match asg p d G with
      | some G1 => (t G1 h).noX.bind fun b h1 => if b = true then (e G1 h1).noX.bind fun x h2 => (compGoP p t e Cn G r h2).bind fun xs h3 => .ok (x :: xs) h3 else compGoP p t e Cn G r h1
      | none => .stuck
    else .stuck
noncomputable def lCompP (p : Pat) (vs : List Nat) (it : ImP) (t : MeT) (e : Me) : MeL := fun G h => (it G h).bind fun a h1 => if a.1.length ≤ big then compGoP p t e a.2 (wipeG G vs) a.1 h1 else .stuck
@[simp] theorem v_lCompP {p : Pat} {vs : List Nat} {it : ImP} {t : MeT} {m : Me} {G : Env} {h : AH} : lCompP p vs it t m G h = (it G h).bind fun a h1 => if a.1.length ≤ big then compGoP p t m a.2 (wipeG G vs) a.1 h1 else .stuck := id rfl
theorem OutF.bindIP {K : PySem.W.Frag} {mg : Str → Option Value} {W : WX} {w : Wd} {σ : L2.St} {G : Env} {h : AH} {m : ImP} {R : It → Hp → Prop} {Q : VK} {k : List D × (AH → Prop) → AH → Res (List D)} (o : OutF K mg W w σ Q ((m G h).bind k))
    (hq : ∀ all Cn h1 J w1 H1, Le w w1 → RepH K w1 H1 h1 → WalksP K J w1 all Cn → OutF K mg W w1 σ Q (k (all, Cn) h1) → R J H1) : OutIP K mg W w σ R (m G h) := by
  cases e : m G h with
  | ok d h1 =>
    rw [e] at o
    exact fun J w1 H1 l r x => hq d.1 d.2 h1 J w1 H1 l r x (OutF.mono l o)
  | exc c fs h1 =>
    rw [e] at o
    exact o
  | stuck =>
    rw [e] at o
    exact o
section
variable {X : Cx} {W : WX} {pos : Pos} {tg iter elt : Expr} {ifs : List Expr} {scope : Scope} {own : List (Str × Nat)} {p : Pat} {im : ImP} {mt : MeT} {me : Me}
end
end AB
/-! AB: {} whose keys are to be None and tuples of ints. -/
namespace HD
open PySem PySem.Spec PyProof.Rows L2
section
variable {X : Cx} {pos : Pos}
end
end HD
namespace AB
open PySem PySem.Spec PyProof.Rows L2 HD
noncomputable def mHNew : Me := fun _ h => .ok (.loc h.length) (h ++ [.hld []])
@[simp] theorem v_mHNew {G : Env} {h : AH} : mHNew G h = .ok (.loc h.length) (h ++ [.hld []]) := rfl
section
variable {X : Cx} {W : WX} {pos : Pos}
end
end AB
/-! AB: list(range(n)), list(range(a, b)). -/
namespace AB
open PySem PySem.Spec PyProof.Rows L2
noncomputable def lRg1 (m : Me) : MeL := fun G h => (m G h).bind fun d h1 => match d with
  | .int j => if okR j then .ok (rangeD 0 j.toNat) h1 else .stuck
  | _ => .stuck
@[simp] theorem v_lRg1 {m : Me} {G : Env} {h : AH} : lRg1 m G h = (m G h).bind fun d h1 => match d with
  | .int j => if okR j then .ok (rangeD 0 j.toNat) h1 else .stuck
  | _ => .stuck := rfl
section
variable {K : PySem.W.Frag} {w : Wd}
end
section
variable {X : Cx} {W : WX} {a : Expr} {m : Me} {p p2 pos : Pos}
end
end AB
/-! xs.extend(t) of a tuple. -/
namespace HT
open PySem PySem.Spec PyProof.Rows L2
theorem meets_extT (l : Addr) (items : Array Value) (n : Nat) (b : Addr) (items2 : Array Value) (hs0 : ¬(!items.isEmpty && Builtin.List.listTooLong (items.size + items2.size)) = true) (hs1 : items.size ≤ sizeLine) (hs2 : items.size + items2.size ≤ sizeLine + 1) :
    Meets (Builtin.«list.extend» ⟨[.ref l, .ref b], []⟩) (fun _ R s => s.heap.get? l = some { cls := .type "list", dict := none, data := .seq items n, slots := #[] } ∧ IsTup s.heap b items2 ∧ R (.ok (.ret Value.none)) { s with heap := s.heap.update l (Obj.mapSeq fun x => x ++ items2), toks := s.toks }) :=
  .of_wp fun prog w A R s h => by
    obtain ⟨hl, ⟨ob, hb, hcb, hdb⟩, h⟩ := h
    have hz' : (items ++ items2).size ≤ sizeLine + 1 := by rw [Array.size_append]; exact hs2
    show wpAny _ _ (Builtin.List.listExtendWith (.ref l) (.ref b) .none) _ _ s
    unfold Builtin.List.listExtendWith
    refine wpAny_bind (wpAny_typeOf ⟨ob, hb, hcb⟩ ?_)
    have h1 : (Builtin.List.listSameRef (.ref l) (.ref b) || Value.type "tuple" == Value.type "list" || Value.type "tuple" == Value.type "tuple") = true := by simp
    simp only [h1, if_true]
    refine wpAny_bind ?_
    unfold Builtin.List.listItems
    obtain ⟨n2, hdb⟩ := hdb
    refine wpAny_bind (wpAny_seqItems hb hdb (wpAny_pure ?_))
    refine wpAny_bind ?_
    refine wpAny_bind (wpAny_seqItems hl rfl (wpAny_pure ?_))
    rw [if_neg hs0]
    show wpAny _ _ (updateSeq l (· ++ items2) >>= fun _ => ret Value.none) _ _ s
    refine wpAny_bind (wpAny_updateSeq hl rfl ?_ (hz := hs1) (_hz' := hz'))
    exact wpAny_pure ⟨_, rfl, h⟩
end HT
namespace L2
open PySem PySem.Spec PyProof.Rows
section
variable {X : Cx}
noncomputable def rExtT (K : PySem.W.Frag) : V → List V → Hp → VK → Prop := fun x vs H Q => ∃ l b xs zs, x = .ref l ∧ vs = [.ref b] ∧ H l = some (.lst xs) ∧ SqT K H b zs ∧ xs.length + zs.length ≤ sizeLine ∧ Q .non (upd H l (.lst (xs ++ zs)))
theorem mt_extT : MtM X "list.extend" (rExtT X.K) := by
  intro pins s σ H x vs v us Q I rx rv h
  obtain ⟨l, b, xs, zs, rfl, rfl, hH, hB, hz, q⟩ := h
  cases rx
  obtain ⟨u, rfl, ru⟩ := rv.one
  cases ru
  obtain ⟨z, its, n, r, hl, e⟩ := I.lstM hH
  obtain ⟨its2, r2, ht, hz2⟩ := I.tuple hB
  have hl2 := r2.length
  have hsz : its.toArray.size + its2.toArray.size ≤ sizeLine := by rw [List.size_toArray, List.size_toArray]; omega
  have hlong : ¬ (!its.toArray.isEmpty && Builtin.List.listTooLong (its.toArray.size + its2.toArray.size)) = true := by
    rw [notLongL hsz, Bool.and_false]
    exact Bool.false_ne_true
  refine call_meets F.slot_list_extend ⟨_, e, rfl⟩ F.entry_list_extend (F.args_list_extend_2 _ _)
    (HT.meets_extT l its.toArray n b its2.toArray hlong (by rw [List.size_toArray]; omega) (by omega)) ⟨e, ht, ?_⟩
  refine ⟨.non, _, I.lset (its' := its ++ its2) hH e (by simp) (r.append r2) ?_, rfl, q⟩
  rw [List.length_append]
  omega
end
end L2
/-! AB: xs.extend(t) of a tuple. -/
namespace AB
open PySem PySem.Spec PyProof.Rows L2
noncomputable def fExtT (d : D) (xs : List D) (h : AH) : Res D := match d, xs with
  | .loc n, [.tup es] => match h[n]? with
    | some (.lst ds) => if ds.length + es.length ≤ big then .ok .non (h.set n (.lst (ds ++ es))) else .stuck
    | _ => .stuck
  | _, _ => .stuck
section
variable {X : Cx} {W : WX} {o e : Expr} {ma : Me} {as : MeL} {apos cpos : Pos}
theorem fol_extT : FolM X W fExtT (rExtT X.K) := by
  intro w h H σ Q v d vs ds rh rv ra o
  unfold fExtT at o
  split at o
  · rename_i n es
    split at o
    · rename_i fs e
      split at o
      · rename_i c
        cases rv with
        | loc hn =>
          obtain ⟨u, rfl, ru⟩ := ra_one ra
          cases ru with
          | @tup b zs _ sq rz =>
            obtain ⟨_, xs, e1, rx⟩ := rh.cell n _ e
            exact ⟨w.mu n, b, xs, zs, rfl, rfl, e1, rh.ex.t sq, big_le (by rw [rx.length, rz.length]; exact c), out_set hn o rh .non (rx.append rz)⟩
      · exact o.elim
    · exact o.elim
  · exact o.elim
theorem e_extT (ho : PE X o (TM X W ma)) (ha : PA X [e] (TAr X W as))
    (hbase : attributeBase o "extend" X.env (eval o X.env) = eval o X.env := by rfl)
    (hfew : ((backTo cpos (starEach [e] X.env)).all (fun x => !x.1) && (backToKw cpos (keywordEach [] X.env)).all (fun x => x.1.isSome)
      && decide (([e] : List Expr).length + ([] : List Keyword).length + (if ([] : List Keyword).isEmpty then 0 else 1) < 30)) = true := by rfl)
    (hline : (apos.endLine == cpos.line) = true := by rfl) (hs : starEach [e] X.env = (false, eval e X.env) :: starEach [] X.env := by rfl) (hplain : (backTo cpos (starEach [] X.env)).any (·.1) = false := by rfl) :
    PE X (.Call (.Attribute o "extend" apos) [e] [] cpos) (TM X W (mBM fExtT ma as)) :=
  e_bm PySem.F.slot_list_extend PySem.F.type_list_extend mt_extT fol_extT ho ha hbase hfew hline hs hplain
end
end AB
/-! AB: name = [.. for i, x in enumerate(o)] on one line, o an object. -/
namespace AB
open PySem PySem.Spec PyProof.Rows L2
section
variable {X : Cx} {W : WX} {pos : Pos} {tg iter elt : Expr} {ifs : List Expr} {scope : Scope} {own : List (Str × Nat)} {p : Pat} {im : ImP} {mt : MeT} {me : Me}
end
end AB
/-! AB: [f, g][i](..): a call of one of two defs, by a number. -/
namespace AB
open PySem PySem.Spec PyProof.Rows L2

section
variable {X : Cx} {W : WX} {pos p0 p1 sp lp : Pos} {e ie : Expr} {es : List Expr} {as : MeL} {mi : Me} {x0 x1 : Str} {k0 k1 k' : Nat} {ps0 ps1 : List Str} {m0 m1 : Fn}
end
end AB
/-! AB: try .. except C: without a name. -/
namespace AB
open PySem PySem.Spec PyProof.Rows L2

noncomputable def noExc : SR → SR
  | .exc _ _ _ _ => .stuck
  | r => r
@[simp] theorem noExc_next (G : Env) (h : AH) : noExc (.next G h) = .next G h := rfl
@[simp] theorem noExc_ret (d : D) (h : AH) : noExc (.ret d h) = .ret d h := rfl
noncomputable def tryKO (tb : List (Str × Option Ms)) (G : Env) (h : AH) (c : Str) (fs : List (Str × D)) : SR := match tb.lookup c with
  | some (some m) => noExc (m G h)
  | some none => .exc c fs G h
  | none => .stuck
/-- try: body / except C: by the class of what comes, a suite or nothing -/
noncomputable def sTryO (tb : List (Str × Option Ms)) (body : Ms) : Ms := fun G h => match body G h with
  | .exc c fs G1 h1 => tryKO tb G1 h1 c fs
  | r => r
section
variable {K : PySem.W.Frag} {mg : Str → Option Value} {W : WX} {w : Wd}
theorem out_noExc {D : Ends} {r : SR} (o : OutS K mg W D w (noExc r)) : OutS K mg WF D w r := by
  cases r with
  | next G h => exact o
  | ret d h => exact o
  | brk G h => exact o
  | cont G h => exact o
  | exc c fs G h => exact o.elim
  | stuck => exact o.elim
end
noncomputable def TyOkO (X : Cx) (cl : Value) (suite : List Stmt) (tb : List (Str × Option Ms)) : Prop :=
  ∀ c om, tb.lookup c = some om → TkOk X.K X.mg cl c om.isSome ∧ ∀ m, om = some m → ∀ (a : Addr) (oe : Obj) (pn : List (Addr × Obj)), PSs (X.suite a ((a, oe) :: pn)) suite (tS X.K X.mg WF m)
section
variable {X : Cx} {W : WX} {cl : Value} {suite : List Stmt} {tb : List (Str × Option Ms)} {c : Str}
theorem tyO_nil : TyOkO X cl suite [] := fun c om e => by cases e
theorem tyO_cons {om : Option Ms} (h : TkOk X.K X.mg cl c om.isSome) (s : ∀ m, om = some m → ∀ (a : Addr) (oe : Obj) (pn : List (Addr × Obj)), PSs (X.suite a ((a, oe) :: pn)) suite (tS X.K X.mg WF m)) (t : TyOkO X cl suite tb) : TyOkO X cl suite ((c, om) :: tb) := fun c2 om2 e => by
  rw [List.lookup_cons] at e
  cases q : c2 == c with
  | true =>
    rw [q] at e
    cases e
    have : c2 = c := by simpa using q
    subst this
    exact ⟨h, s⟩
  | false =>
    rw [q] at e
    exact t c2 om2 e
theorem tyO_some {m : Ms} (h : TkOk X.K X.mg cl c true) (s : ∀ (a : Addr) (oe : Obj) (pn : List (Addr × Obj)), PSs (X.suite a ((a, oe) :: pn)) suite (tS X.K X.mg WF m)) (t : TyOkO X cl suite tb) : TyOkO X cl suite ((c, some m) :: tb) := tyO_cons h (fun m2 e => by cases e; exact s) t
theorem s_tryO {x : Str} {body : List Stmt} {b₀ : Stmt} {np pos pos' : Pos} {mb : Ms} (hx : ∃ cl, X.mg x = some cl) (tk : Takes X W)
    (hb : ∀ (W : WX) (pn : List (Addr × Obj)) (xe : Value → Shared → Prop), Takes (X.tr pn xe) W → PassesOwn (model X.prog X.w) X.A X.env xe → PSs (X.tr pn xe) body (tS X.K X.mg W mb))
    (ht : ∀ cl, X.mg x = some cl → TyOkO X cl (b₀ :: suite) tb) (hs : X.stack = X.env :: X.outer := by rfl) (hf : X.env.frame = some X.env.locals := by rfl) (hg : Gl X x := by rfl) (hd : (x == ("__debug__" : Str)) = false := by decide) :
    PS X (.Try body [.ExceptHandler (some (.Name x np)) none (b₀ :: suite) pos'] [] [] pos) (TSS X W (sTryO tb mb)) := by
  obtain ⟨cl, hx⟩ := hx
  have ht := ht cl hx
  refine (ps_try_only (tb := fun W => tS X.K X.mg W mb) (ts := fun a cls d => fun D σ H => ∃ c m, tb.lookup c = some (some m) ∧ tS X.K X.mg WF m D σ H)
    hs hf (c := cl) ⟨hg, hd, .inl hx⟩ tk hb fun a oe cls d pn z f => ⟨fun pins s σ H D I q => ?_⟩).wk fun D σ H ⟨w, G, h, g, r, o⟩ => ⟨w, G, h, g, r, ?_⟩
  · obtain ⟨c, m, e1, q⟩ := q
    exact ((ht c _ e1).2 m rfl a oe pn).run pins s σ H D I q
  · have o : OutS X.K X.mg W D w (match mb G h with
      | .exc c fs G1 h1 => tryKO tb G1 h1 c fs
      | r => r) := o
    cases em : mb G h with
    | next G1 h1 => rw [em] at o; exact o
    | ret d h1 => rw [em] at o; exact o
    | brk G1 h1 => rw [em] at o; exact o
    | cont G1 h1 => rw [em] at o; exact o
    | stuck => rw [em] at o; exact o.elim
    | exc c fs G1 h1 =>
      rw [em] at o
      have o : OutS X.K X.mg W D w (tryKO tb G1 h1 c fs) := o
      intro cls dd σ' w' H' ec l g' r' x'
      cases et : tb.lookup c with
      | none => unfold tryKO at o; rw [et] at o; exact o.elim
      | some om =>
        obtain ⟨⟨D0, hm, he⟩⟩ := (ht c _ et).1
        rw [hm] at ec
        cases ec
        cases om with
        | none =>
          have o : OutS X.K X.mg W D w (.exc c fs G1 h1) := by
            unfold tryKO at o
            rw [et] at o
            exact o
          exact ⟨false, he, (fun z => by cases z), fun _ => o _ dd σ' w' H' hm l g' r' x'⟩
        | some m =>
          refine ⟨true, he, fun _ a ha => ⟨c, m, et, w', G1, h1, g', r', ?_⟩, fun z => by cases z⟩
          have o : OutS X.K X.mg W D w (noExc (m G1 h1)) := by
            unfold tryKO at o
            rw [et] at o
            exact o
          exact out_noExc (OutS.mono l o)
end
end AB
/-! x != y of instances by an own __eq__ (found anywhere on the way), whatever it tells. -/
namespace HNeK
open PySem PySem.Spec PySem.Calls PyProof.Rows PySem.W
section
variable {prog : Program} {w : World} {A : Around} {E : Value → Shared → Prop} {s : Shared} {K : PySem.W.Frag} {x C f : Addr} {ox : Obj} {od : Option Obj} {b tb : Value}
theorem ne_entry (X : K.In s.heap) (I : InstAt s.heap x ox C od) (hu : A.units < cLine) (heq : findIn K (.ref C) "__eq__" = some (some (.ref f))) (hf : isFn K (.ref f) = true) {Q : Fin → Shared → Prop}
    (hcall : wpAny (model prog w) A (call (.ref f) [.ref x, b]) (fun v s' => ∃ c, v = .bool c ∧ Q (.done (.ret (.bool (!c)))) s') E s) :
    wpAny (model prog w) A (Builtin.«object.__ne__» ⟨[.ref x, b], []⟩) Q E s := by
  obtain ⟨hp, g, d, t, os⟩ := s
  unfold Builtin.«object.__ne__»
  repeat (first
    | with_reducible refine wpAny_cRoomFor hu ?_
    | (refine wpAny_bind (m := callSpecialIfBound? (.ref x) (Str.ofString "__eq__") [b])
        (ifBound_K X I heq hf (wpAny_mono hcall (fun r s' hr => by
          obtain ⟨b, rfl, hq⟩ := hr
          repeat (first | exact hq | exact wpAny_pure hq | exact wpAny_truthy_bool hq | (refine wpAny_bind (m := truthy (.bool _)) (wpAny_truthy_bool ?_)) | wp_step)) fun _ _ e => e)))
    | wp_step)
theorem ifBound_KB {M : Model} {name : Str} {B id : String} {args : List Value} {Q : Option Value → Shared → Prop} (X : K.In s.heap) (I : InstAt s.heap x ox C od) (hs : findIn K (.ref C) name = some (some (.builtin id))) (S : Slot B name id)
    (h : wpAny M A (call (.builtin id) (.ref x :: args)) (fun v => Q (some v)) E s) : wpAny M A (callSpecialIfBound? (.ref x) name args) Q E s := by
  simp only [callSpecialIfBound?, bindSpecialIfBound?]
  refine wpAny_holding (wpAny_bind (wpAny_bind (wpAny_bind (I.type.here ((looks_findIn X hs).here ?_)))))
  have fin : wpAny M A (call (.builtin id) ([.ref x] ++ args) >>= fun v => pure (some v)) Q E s := wpAny_bind (wpAny_mono h (fun v s' h' => wpAny_pure h') fun _ _ h' => h')
  simp only [S.bind]
  refine wpAny_bind (wpAny_askSetting (wpAny_ite ?_))
  split
  · exact wpAny_bind (wpAny_pure (wpAny_pure fin))
  · exact wpAny_tryCatch (wpAny_bind (wpAny_pure (wpAny_pure fin)))
theorem tryNe (X : K.In s.heap) (I : InstAt s.heap x ox C od) (hu : A.units + 1 < cLine) (hne : findIn K (.ref C) "__ne__" = some (some (.builtin "object.__ne__"))) (hob : subIn K (.ref C) (.type "object") = some true)
    (heq : findIn K (.ref C) "__eq__" = some (some (.ref f))) (hf : isFn K (.ref f) = true) {Q : Option Value → Shared → Prop}
    (hcall : wpAny (model prog w) A.in1 (call (.ref f) [.ref x, b]) (fun v s' => ∃ c, v = .bool c ∧ Q (some (.bool (!c))) s') E s) :
    wpAny (model prog w) A (tryCompare (.ref x) "__ne__" b) Q E s := by
  simp only [tryCompare]
  have L0 := I.type (M := model prog w)
  have sub : Looks (model prog w) s.heap (isInstance (.ref x) (.type "object")) true := L0.andThen (looks_subIn X hob)
  refine wpAny_bind (ifBound_KB X I hne F.cmp_object.ne (wpAny_call (codeAny_call_builtin F.cmp_object.ne.plain F.cmpEntry_ne
    (@check_slot (model prog w) _ _ s "object.__ne__" "object" "__ne__" (.ref x) [b] [] _ F.cmpKind_ne F.cmpSplit_ne sub (F.cmpArgs_ne _ _)
      (ne_entry (A := A.in1) X I hu heq hf (wpAny_mono hcall (fun v s' hv => ?_) fun _ _ e => e))))))
  obtain ⟨b, rfl, hq⟩ := hv
  first | exact ⟨b, rfl, wpAny_pure hq⟩ | exact ⟨b, rfl, wpAny_pure (wpAny_pure hq)⟩ | exact ⟨b, rfl, hq⟩
/-- x != b: by the own __eq__ of the class of x, if the class of b is no other one under it -/
theorem rc_ne (X : K.In s.heap) (I : InstAt s.heap x ox C od) (hu : A.units + 1 < cLine) (hb : Looks (model prog w) s.heap (typeOf b) tb) (hn : notFirst K C tb = true) (hne : findIn K (.ref C) "__ne__" = some (some (.builtin "object.__ne__"))) (hob : subIn K (.ref C) (.type "object") = some true)
    (heq : findIn K (.ref C) "__eq__" = some (some (.ref f))) (hf : isFn K (.ref f) = true) {Q : Value → Shared → Prop}
    (h : wpAny (model prog w) A.in1 (call (.ref f) [.ref x, b]) (fun v s' => ∃ c, v = .bool c ∧ Q (.bool (!c)) s') E s) : wpAny (model prog w) A (richCompare .NotEq (.ref x) b) Q E s := by
  have one : wpAny (model prog w) A (tryCompare (.ref x) "__ne__" b) (fun r s' => ∃ v, r = some v ∧ v ≠ .notImplemented ∧ Q v s') E s := by
    refine tryNe X I hu hne hob heq hf (wpAny_mono h (fun v s' hv => ?_) fun _ _ e => e)
    obtain ⟨c, rfl, hq⟩ := hv
    exact ⟨c, rfl, _, rfl, (fun z => by cases z), hq⟩
  unfold richCompare
  simp only [oneThing_ref]
  refine wpAny_holding (wpAny_bind (wpAny_cRoomFor (Nat.lt_of_succ_lt hu) ?_))
  rw [cmpInfo_NotEq]
  dsimp only
  refine wpAny_bind (I.type.here (wpAny_bind (hb.here ?_)))
  split
  · rename_i q
    have e : subIn K tb (.ref C) = some false := by
      rcases Bool.or_eq_true_iff.mp hn with e | e
      · rw [beq_iff_eq.mp e] at q; simp at q
      · exact beq_iff_eq.mp e
    refine wpAny_bind ((looks_subIn X e).here ?_)
    simp only [Bool.false_eq_true, if_false]
    refine wpAny_bind (wpAny_mono one (fun r s' z => ?_) fun _ _ e => e)
    obtain ⟨v, rfl, hv, hq⟩ := z
    exact wpAny_pure hq
  · refine wpAny_bind (wpAny_pure ?_)
    simp only [Bool.false_eq_true, if_false]
    refine wpAny_bind (wpAny_mono one (fun r s' z => ?_) fun _ _ e => e)
    obtain ⟨v, rfl, hv, hq⟩ := z
    exact wpAny_pure hq
end
end HNeK
/-! AB: x != y of instances, by an own __eq__ that tells a flag. -/
namespace AB
open PySem PySem.Spec PyProof.Rows L2
/-- what the classes C, C2 of x, y are like: no own __ne__, the class of y none under that of x -/
structure NeOk (K : PySem.W.Frag) (C C2 : Str) : Prop where
  ex : ∀ Ca Cb, PySem.W.nsIn K mainGlobals C = some (some (.ref Ca)) → PySem.W.nsIn K mainGlobals C2 = some (some (.ref Cb)) →
    PySem.W.notFirst K Ca (.ref Cb) = true ∧ PySem.W.findIn K (.ref Ca) "__ne__" = some (some (.builtin "object.__ne__")) ∧ PySem.W.subIn K (.ref Ca) (.type "object") = some true
noncomputable def NesOk (K : PySem.W.Frag) (cs : List (Str × Str)) : Prop := ∀ C C2, (C, C2) ∈ cs → NeOk K C C2
theorem nes_nil {K : PySem.W.Frag} : NesOk K [] := fun _ _ h => by cases h
theorem nes_cons {K : PySem.W.Frag} {C C2 : Str} {cs : List (Str × Str)} (h : NeOk K C C2) (r : NesOk K cs) : NesOk K ((C, C2) :: cs) := fun D D2 e => by
  rcases List.mem_cons.mp e with e | e
  · cases e; exact h
  · exact r D D2 e
noncomputable def fNeI (tb : List (Str × Fn)) (cs : List (Str × Str)) (x y : D) (h : AH) : Res D := match x, y with
  | .loc n, .loc m => match h[n]?, h[m]? with
    | some (.ins C _), some (.ins C2 _) => if (C, C2) ∈ cs then (match tb.lookup C with
      | some fn => match fn [.loc n, .loc m] h with
        | .ok (.bl c) h2 => .ok (.bl (!c)) h2
        | _ => .stuck
      | none => .stuck) else .stuck
    | _, _ => .stuck
  | _, _ => .stuck
noncomputable def EF : XK := fun _ _ _ => False
noncomputable def rNeI (X : Cx) (k' : Nat) : R2 := fun x y H Q => ∃ a b Ca Cb dx dy fs gs f fd ps k sp, x = .ref a ∧ y = .ref b ∧ H a = some (.ins Ca dx fs) ∧ H b = some (.ins Cb dy gs) ∧
  PySem.W.notFirst X.K Ca (.ref Cb) = true ∧ PySem.W.findIn X.K (.ref Ca) "__ne__" = some (some (.builtin "object.__ne__")) ∧ PySem.W.subIn X.K (.ref Ca) (.type "object") = some true ∧
  Meth X.K Ca "__eq__" f ∧ Binds X.K fd ps [] ∧ k ≤ k' ∧ FnOk X.prog X.w X.K X.mg X.base (L2.CX X.prog X.w) k f fd ps sp ∧ sp [.ref a, .ref b] H (fun v H' => ∃ c, v = .bl c ∧ Q (.bl (!c)) H') EF
theorem cx_none {P : Program} {w : World} {outer : List PySem.Env} {H : Hp} {s : Shared} {e : Value} {s' : Shared} (h : L2.CX P w outer H s EF e s') : False := by
  obtain ⟨_, _, _, _, _, _, _, _, _, _, _, _, z⟩ := h
  exact z
section
variable {X : Cx} {W : WX} {k' : Nat} {tb : List (Str × Fn)} {cs : List (Str × Str)}
theorem op_neI (hr : Room (k' + 1) X.A) : OpR X (compareOp .NotEq) (rNeI X k') := by
  intro pins s σ H x y u v Q I rx ry d
  obtain ⟨a, b, Ca, Cb, dx, dy, fs, gs, f, fd, ps, k, sp, rfl, rfl, ha, hb', n1, n2, n3, M, hb, hk, F, q⟩ := d
  cases rx
  cases ry
  obtain ⟨mA, J, _⟩ := ins_get I.hok ha
  obtain ⟨mB, J', _⟩ := ins_get I.hok hb'
  obtain ⟨od, J, _⟩ := J.look
  obtain ⟨od', J', _⟩ := J'.look
  unfold compareOp
  refine HNeK.rc_ne I.kIn J (by have := hr.un; omega) J'.type n1 n2 n3 M.at_ M.fn ?_
  have e0 : Env0 X.prog X.w X.K X.mg X.base X.A.in1 X.stack s H := by
    have e := I.env0
    exact ⟨e.frames, e.mod, e.bs, e.bsz, e.funs, e.frf, e.hok, e.bare⟩
  have hl := F.len _ _ _ _ q
  have r2 : Vals [V.ref a, V.ref b] [Value.ref a, Value.ref b] := .cons rfl (.cons rfl .nil)
  refine wpAny_call (codeAny_mono (F.run X.A.in1 X.stack s H ⟨[.ref a, .ref b], []⟩ [.ref a, .ref b] [.ref a, .ref b] _ EF (hr.in1.mono hk) e0 (by
    have := hb s [.ref a, .ref b] I.kIn (by simpa using hl)
    simpa using this) r2 q) fun r s' hq => ?_)
  cases r with
  | error e => exact (cx_none hq).elim
  | ok fl =>
    cases fl with
    | ret w =>
      obtain ⟨z, H', I', rz, c, ez, q3⟩ := I.after hq
      subst ez
      cases rz
      exact ⟨c, rfl, .bl (!c), H', I', rfl, q3⟩
    | next => exact False.elim hq
    | brk => exact False.elim hq
    | cont => exact False.elim hq
theorem fol_neI (hT : TbOk X k' "__eq__" tb) (hN : NesOk X.K cs) : Fol2 X W (fNeI tb cs) (rNeI X k') := by
  intro w h H σ Q v1 v2 d1 d2 rh r1 r2 o
  unfold fNeI at o
  split at o
  · rename_i n m
    obtain ⟨rfl, hn⟩ := rv_loc r1
    obtain ⟨rfl, hm⟩ := rv_loc r2
    split at o
    · rename_i C fs C2 gs ec ec2
      split at o
      · rename_i hmem
        split at o
        · rename_i fn ef
          obtain ⟨_, Ca, dx, fv, e1, e2, e3, ra, _⟩ := rh.cell n _ ec
          obtain ⟨_, Cb, dy, gv, e1', e2', e3', rb, _⟩ := rh.cell m _ ec2
          obtain ⟨k, ps, hk, M⟩ := hT C fn ef
          obtain ⟨c, f, fd, hmm, hb, F⟩ := M.get Ca e1
          obtain ⟨n1, n2, n3⟩ := (hN C C2 hmem).ex Ca Cb e1 e1'
          refine ⟨_, _, Ca, Cb, dx, dy, fv, gv, f, fd, ps, k, _, rfl, rfl, e2, e2', n1, n2, n3, hmm, hb, hk, F, w, [.loc n, .loc m], h, .cons r1 (.cons r2 .nil), rh, ?_⟩
          cases em : fn [.loc n, .loc m] h with
          | ok d h2 =>
            rw [em] at o
            cases d with
            | bl c =>
              intro v w' H' l r rv
              cases rv
              exact ⟨c, rfl, o (.bl (!c)) w' H' l r (.bl _)⟩
            | _ => exact o.elim
          | exc c fs h2 => rw [em] at o; exact o.elim
          | stuck => rw [em] at o; exact o.elim
        · exact o.elim
      · exact o.elim
    · exact o.elim
  · exact o.elim
end
/-! isinstance of an instance, by an own class -/
structure KitOk (K : PySem.W.Frag) (mg : Str → Option Value) (C t : Str) (b : Bool) : Prop where
  ex : ∀ Ca, PySem.W.nsIn K mainGlobals C = some (some (.ref Ca)) → Cls K Ca ∧ PySem.W.findIn K (.ref Ca) "__class__" = some (some (.builtin "object.__class__")) ∧ PySem.W.specialIn K (.builtin "object.__class__") "__get__" = some (some (.builtin "getset_descriptor.__get__")) ∧
    PySem.W.takesIn K (.builtin "object.__class__") = some true ∧ PySem.W.mroIn K Ca (.type "object") = some true ∧ ∀ D0, mg t = some (.ref D0) → PySem.W.kitOne K (.ref Ca) (.ref D0) = some b
noncomputable def KitsOk (K : PySem.W.Frag) (mg : Str → Option Value) (t : Str) (tb : List (Str × Bool)) : Prop := ∀ C b, tb.lookup C = some b → KitOk K mg C t b
theorem kits_nil {K : PySem.W.Frag} {mg : Str → Option Value} {t : Str} : KitsOk K mg t [] := fun C b e => by cases e
theorem kits_cons {K : PySem.W.Frag} {mg : Str → Option Value} {t C : Str} {b : Bool} {tb : List (Str × Bool)} (h : KitOk K mg C t b) (r : KitsOk K mg t tb) : KitsOk K mg t ((C, b) :: tb) := fun C2 b2 e => by
  rw [List.lookup_cons] at e
  cases q : C2 == C with
  | true =>
    rw [q] at e
    cases e
    have : C2 = C := by simpa using q
    subst this
    exact h
  | false =>
    rw [q] at e
    exact r C2 b2 e
noncomputable def mIsiI (tb : List (Str × Bool)) (m : Me) : Me := fun G h => (m G h).bind fun d h1 => match d with
  | .loc n => match h1[n]? with
    | some (.ins C _) => match tb.lookup C with
      | some b => .ok (.bl b) h1
      | none => .stuck
    | _ => .stuck
  | _ => .stuck
section
variable {X : Cx} {W : WX} {e : Expr} {ma : Me} {p pos : Pos}
theorem e_isiI {tb : List (Str × Bool)} {t : Str} {pt : Pos} (hi : X.mg "isinstance" = none) (ht : ∃ D0, X.mg t = some (.ref D0)) (hT : KitsOk X.K X.mg t tb) (he : PE X e (TM X W ma)) (hgt : Gl X t := by rfl) (hg : Gl X "isinstance" := by rfl) (hd : (t == ("__debug__" : Str)) = false := by decide)
    (h1 : starEach [e, .Name t pt] X.env = (false, eval e X.env) :: starEach [.Name t pt] X.env := by rfl) (h2 : starEach [.Name t pt] X.env = (false, eval (.Name t pt) X.env) :: starEach [] X.env := by rfl) (hpl : (backTo pos (starEach [.Name t pt] X.env)).any (·.1) = false := by rfl) :
    PE X (.Call (.Name "isinstance" p) [e, .Name t pt] [] pos) (TM X W (mIsiI tb ma)) := by
  obtain ⟨D0, hu⟩ := ht
  refine (pe_callB call_isi hg hi (by decide +kernel) (pa_cons he (pa_cons (pe_glob (v := .ref D0) hgt hu rfl hd) pa_nil h2) h1) (by decide) (by decide) h1 hpl).wk fun σ H Q ⟨w, G, h, g, r, o⟩ => ⟨w, G, h, g, r, o.bindE fun d h1 v w1 H1 l r1 x o1 => ?_⟩
  split at o1
  · rename_i n
    obtain ⟨rfl, hn⟩ := rv_loc x
    split at o1
    · rename_i C fs ec
      split at o1
      · rename_i b el
        obtain ⟨_, Ca, dx, fv, e1, e2, e3, ra, _⟩ := r1.cell n _ ec
        obtain ⟨q1, q2, q3, q4, q5, hk⟩ := (hT C b el).ex Ca e1
        exact ⟨_, .ref D0, .ref Ca, .ref D0, b, rfl, .own _, .base (.ins e2 q1 q2 q3 q4 q5), hk D0 hu, out_ok o1 r1 (.bl _)⟩
      · exact o1.elim
    · exact o1.elim
  · exact o1.elim
end
end AB
/-! sorted(d) of a dict with int keys, of any length -/
namespace AB
open PySem PySem.Spec PyProof.Rows L2
noncomputable def rSortB : List V → Hp → VK → Prop := fun xs H Q => ∃ (a : Addr) (kvs : List (L2.Key × V)) (ks : List Int), xs = [.ref a] ∧ Rd H a (.dK kvs) ∧
  (kvs.map (·.1) = ks.map Sum.inl ∧ ks.length ≤ 4096) ∧
  ∀ (ys : List Int) (p : Addr), ys.Perm ks → ys.Pairwise (· ≤ ·) → H p = none → Q (.ref p) (upd H p (.lst (ys.map V.int)))
section
variable {X : Cx}
theorem vs_ints {vs : List (L2.Key × Value)} {ks : List Int} {acc : Array Value} (hkeys : vs.map (·.1) = ks.map Sum.inl) (hn : acc.toList.length = ks.length)
    (hacc : ∀ (j : Nat) (v : Value), acc[j]? = some v → ∃ k x, vs[j]? = some (k, x) ∧ keyIs k v = true) : IntsAre acc.toList ks := by
  refine ints_each hn fun j v e => ?_
  have e' : acc[j]? = some v := (Array.getElem?_toList (xs := acc)).symm.trans e
  obtain ⟨k, x, e1, e2⟩ := hacc j v e'
  have e3 : (ks.map (Sum.inl (β := Str)))[j]? = some k := by rw [← hkeys, List.getElem?_map, e1]; rfl
  rw [List.getElem?_map] at e3
  obtain ⟨y, e4, e5⟩ := Option.map_eq_some_iff.mp e3
  subst e5
  rcases keyIs_shape e2 with ⟨i, t, ek, ev⟩ | ⟨z, t, ek, _⟩
  · obtain rfl := Sum.inl.inj ek
    exact ⟨y, t, e4, ev⟩
  · exact absurd ek (by simp)
theorem cr_sortB (hcalm : X.calm = true) : CallR X (.builtin "sorted") rSortB := by
  rintro pins s σ H xs us Q I r ⟨a, kvs, ks, rfl, hd, ⟨hks, hk4⟩, q⟩
  obtain ⟨u, rfl, rx⟩ := vals1 r
  cases rx
  obtain ⟨z, lo, vs, rel, dd⟩ := dk_rd I.hok hd
  obtain ⟨ep, hat⟩ := dd.dictAt
  have hkeys : vs.map (·.1) = ks.map Sum.inl := rel.keys.symm.trans hks
  have hl : vs.length = ks.length := by simpa using congrArg List.length hkeys
  have big4 : (4096 : Nat) ≤ sizeLine := by decide
  refine Calls.call_function_entry PyProof.Rows.kind_sorted PyProof.Rows.plain_sorted
    PyProof.Rows.entry_sorted (PyProof.Rows.args_sorted1 _) ?_
  rw [Builtin.«sorted»]
  refine wpAny_bind (m := checkCount "sorted" 1 1 _) (wpAny_pure ?_)
  have D0 := PySem.W.kdl_dict (knd := mixKind X.prog X.w) (kvs := vs) (ep := ep) lo
  refine wpAny_bind (PySem.W.kdu_collect (A := X.A.in1) D0 (I.ok.hd hcalm) hat (Nat.le_trans (Nat.le_of_eq hl) (Nat.le_trans hk4 big4)) ?_)
  intro h' tk acc hk hacc
  have hal : acc.toList.length = ks.length := (Array.length_toList).trans (hacc.1.trans hl)
  have hS := vs_ints hkeys hal hacc.2
  have I1 : Inv X pins σ H { s with heap := h', toks := tk } := I.kept hk
  refine wpAny_bind (wpAny_newList ?_ (Nat.le_trans (Nat.le_trans (Nat.le_of_eq hal) hk4) big4))
  show wpAny _ _ _ _ _ { s with heap := h'.push (seqObj "list" acc.toList.toArray 0), toks := tk }
  have hoL : (h'.push (seqObj "list" acc.toList.toArray 0)).get? h'.objs.size = some (seqObj "list" acc.toList.toArray 0) :=
    Heap.get?_push_size _ rfl
  have fin : ∀ (out : Array Value) (ys : List Int), IntsAre out.toList ys → ys.Perm ks → ys.Pairwise (· ≤ ·) →
      EP X pins σ Q (.ref h'.objs.size) { s with heap := sortedHeap (h'.push (seqObj "list" acc.toList.toArray 0)) h'.objs.size acc.toList out, toks := tk } := by
    intro out ys g1 g2 g3
    obtain ⟨e', he'⟩ := PyProof.Rows.sortedHeap_at (vs := acc.toList) (out := out) hoL
    have hlen : (ys.map V.int).length ≤ sizeLine := by
      rw [List.length_map, g2.length_eq]
      exact Nat.le_trans hk4 big4
    have old : ∀ b u, h'.get? b = some u → (sortedHeap (h'.push (seqObj "list" acc.toList.toArray 0)) h'.objs.size acc.toList out).get? b = some u := by
      intro b u e
      have hb := Heap.lt_size e
      rw [PyProof.Rows.sortedHeap_old (Nat.ne_of_lt hb) (by rw [size_push']; exact Nat.lt_succ_of_lt hb)]
      exact Heap.get?_push_of_some _ e
    exact ⟨.ref h'.objs.size, upd H h'.objs.size (.lst (ys.map V.int)), I1.laid (t' := tk) old (Nat.le_refl _)
      ⟨hlen, out.toList, e', vals_of_ints g1, by rw [Array.toArray_toList]; exact he'⟩, rfl, q ys _ g2 g3 (I1.hok.fresh (Nat.le_refl _))⟩
  refine wpAny_bind (wpAny_holding (wpAny_call_entry PyProof.Rows.slot_list_sort ⟨_, hoL, rfl⟩
    PyProof.Rows.entry_list_sort (PyProof.Rows.list_sort_treeAny (s := { s with heap := h'.push (seqObj "list" acc.toList.toArray 0), toks := tk })
      hoL hS (Nat.le_trans (Nat.le_trans (Nat.le_of_eq hal) hk4) big4) fun out ys g1 g2 g3 => ⟨_, rfl, ?_⟩) (PyProof.Rows.args_list_sort _)))
  exact wpAny_pure ⟨_, rfl, fin out ys g1 g2 g3⟩
end
noncomputable def fSortB (xs : List D) (h : AH) : Res (List D) := match xs with
  | [.loc n] => match dctAt h n with
    | some kvs => match intKeys kvs with
      | some is => if is.length ≤ 4096 then .ok ((sortI is).map .int) h else .stuck
      | none => .stuck
    | none => .stuck
  | _ => .stuck
section
variable {X : Cx} {W : WX} {pos p : Pos} {e : Expr} {as : MeL}
theorem fol_sortB : FolF X W fSortB rSortB := by
  intro w h H σ Q vs ds rh ra o
  unfold fSortB at o
  split at o
  · rename_i n
    obtain ⟨v, rfl, rv⟩ := ra_one ra
    obtain ⟨rfl, hn⟩ := rv_loc rv
    split at o
    · rename_i kvs e
      split at o
      · rename_i is ei
        split at o
        · rename_i hl
          obtain ⟨kv, h1, h2, _⟩ := dct_rd rh e
          refine ⟨_, kv, is, rfl, h1, ⟨h2.trans (intKeys_map ei), hl⟩, fun ys p py hy hp => ?_⟩
          have ey : ys = sortI is := sorted_uniq (py.trans (List.mergeSort_perm is _).symm) hy (sortI_sorted is)
          subst ey
          exact out_new o rh hp (ints_rep _)
        · exact o.elim
      · exact o.elim
    · exact o.elim
  · exact o.elim
theorem f_sortB (hm : X.mg "sorted" = none) (ha : PA X [e] (TAr X W as)) (hc : X.calm = true := by rfl) (hg : Gl X "sorted" := by rfl) (he : starEach [e] X.env = (false, eval e X.env) :: starEach [] X.env := by rfl) : PE X (.Call (.Name "sorted" p) [e] [] pos) (TF X W (lN fSortB as)) :=
  f_blt (cr_sortB hc) fol_sortB hm ha hg (by decide +kernel) (by decide) (by decide) he rfl
end
end AB
/-! AB: == where the left side may be a dict and the right one is a tuple: False -/
namespace AB
open PySem PySem.Spec PyProof.Rows L2
namespace EqDT
open PySem.SeqAt PySem.MeetsSeq PySem.Calls PyProof.V
open PySem.AutoSeq1 (wpAny_loadPart')
theorem tup_declines (l b : Addr) (items : Array Value) (es : Array DictEntry) (n n2 : Nat) (dd dd2 : Option Addr) (sl sl2 : Array (Option Value)) :
    Meets (Builtin.«tuple.__eq__» ⟨[.ref l, .ref b], []⟩) (fun _ R s => s.heap.get? l = some { cls := .type "tuple", dict := dd, data := .seq items n, slots := sl } ∧
      s.heap.get? b = some { cls := .type "dict", dict := dd2, data := .dict es n2, slots := sl2 } ∧ R (.ok (.ret .notImplemented)) s) :=
  .of_wp fun prog w A R s h => by
    obtain ⟨hp, g, d, tk, os⟩ := s
    obtain ⟨hl, hb, h⟩ := h
    have f1 := F.sub_dict_tuple
    wp_walk using wpAny_loadPart' hl, wpAny_loadPart' hb
    exact ⟨_, rfl, h⟩
section
variable {prog : Program} {w : World} {κ : Type} [DecidableEq κ] {knd : KeyKind prog w κ} {A : Around} {E : Value → Shared → Prop} {s : Shared}
theorem dict_declines {a b : Addr} {ka : List (κ × Value)} {items : Array Value} {Q : Value → Shared → Prop} (da : s.heap.DictOf knd a ka) (tb : s.heap.IsTuple b items) (h : Q .notImplemented s) :
    wpAny (model prog w) A (call (.builtin "dict.__eq__") [.ref a, .ref b]) Q E s := by
  have tt : s.TypeIs (.ref b) "tuple" := by
    obtain ⟨o, ho, hc, _⟩ := tb
    exact ⟨o, ho, hc⟩
  refine wpAny_call_entry F.slot_dict_eq da.typeIs F.entry_dict_eq ?_ (F.args_dict_eq_2 _ _)
  show wpAny _ _ (Builtin.Dict.dictSlotArgs "__eq__" ⟨[.ref a, .ref b], []⟩ >>= _) _ _ s
  refine wpAny_bind ?_
  unfold Builtin.Dict.dictSlotArgs
  refine wpAny_bind (wpAny_notOrdered_dict da.typeIs ?_)
  show wpAny _ _ (pure (Value.ref a, Value.ref b)) _ _ s
  refine wpAny_pure ?_
  refine wpAny_bind (wpAny_isInstance (T := "tuple") tt F.sub_tuple_dict ?_)
  simp only [Bool.not_false, if_true]
  refine wpAny_bind (wpAny_rule ?_)
  exact wpAny_pure ⟨_, rfl, h⟩
theorem dict_ne_tuple {a b : Addr} {ka : List (κ × Value)} {items : Array Value} (da : s.heap.DictOf knd a ka) (tb : s.heap.IsTuple b items) : a ≠ b := fun e => by
  subst e
  obtain ⟨o, ho, hc, _⟩ := tb
  obtain ⟨o2, h2, hc2⟩ := da.typeIs
  rw [ho] at h2
  cases h2
  rw [hc] at hc2
  exact absurd hc2 (by simp)
theorem rc_dict_tuple {a b : Addr} {ka : List (κ × Value)} {items : Array Value} {Q : Value → Shared → Prop} (da : s.heap.DictOf knd a ka) (tb : s.heap.IsTuple b items) (hu : A.units < cLine) (h : Q (.bool false) s) :
    wpAny (model prog w) A (compareOp .Eq (.ref a) (.ref b)) Q E s := by
  have hne := dict_ne_tuple da tb
  obtain ⟨⟨c1, d1, t1, s1⟩, es, ep, ho, hx, hd, _⟩ := id da
  obtain ⟨⟨c2, d2, t2, s2⟩, ho2, hc2, n2, hd2⟩ := id tb
  have hc : c1 = .type "dict" := hx.1
  simp only at hd hc2 hd2
  subst hc hd hc2 hd2
  exact (rc_eq_decline_or (k := false) ⟨_, ho, rfl⟩ ⟨_, ho2, rfl⟩ (by decide) F.sub_tuple_dict F.slot_dict_eq F.slot_tuple_eq_refl
    (fun _ hq => dict_declines da tb hq)
    (fun _ hq => call_meets F.slot_tuple_eq_refl ⟨_, ho2, rfl⟩ F.entry_tuple_eq (F.args_tuple_eq_2 _ _) (tup_declines b a items es n2 ep d2 d1 s2 s1) ⟨ho2, ho, hq⟩)
    (fun _ hq => wpAny_isSame_ref_other hne ho ho2 (by simp) hq) (.inr hu) h)
end
end EqDT
/-- == where the left side may be a dict's object, the right one a tuple -/
noncomputable def rEqE (K : PySem.W.Frag) : R2 := fun x y H Q => rEqD K x y H Q ∨ ∃ a b kv ys, x = .ref a ∧ y = .ref b ∧ Rd H a (.dK kv) ∧ SqT K H b ys ∧ Q (.bl false) H
section
variable {X : Cx} {W : WX}
theorem op_eqE (hu : X.A.units + 64 < cLine) : OpR X (compareOp .Eq) (rEqE X.K) := by
  intro pins s σ H x y v u Q I rx ry h
  rcases h with h | ⟨a, b, kv, ys, rfl, rfl, hd, hs, q⟩
  · exact op_eqD hu pins s σ H x y v u Q I rx ry h
  · cases rx
    cases ry
    obtain ⟨_, _, vs, _, dd⟩ := dk_rd I.hok hd
    obtain ⟨its, _, tb, _⟩ := I.tuple hs
    exact EqDT.rc_dict_tuple dd tb (by omega) ⟨.bl _, H, I, rfl, q⟩
noncomputable def fEqE (x y : D) (h : AH) : Res D := match x with
  | .loc n => match dctAt h n with
    | some _ => match y with
      | .tup _ => .ok (.bl false) h
      | _ => .stuck
    | none => fEq (.loc n) y h
  | d => fEq d y h
theorem fol_eqE : Fol2 X W fEqE (rEqE X.K) := by
  intro w h H σ Q v1 v2 d1 d2 rh r1 r2 o
  unfold fEqE at o
  split at o
  · rename_i n
    split at o
    · rename_i kvs e
      obtain ⟨rfl, hn⟩ := rv_loc r1
      split at o
      · rename_i ds
        obtain ⟨kv, h1, h2, _⟩ := dct_rd rh e
        cases r2 with
        | tup a b => exact .inr ⟨_, _, kv, _, rfl, rfl, h1, rh.ex.t a, out_ok o rh (.bl _)⟩
      · exact o.elim
    · exact .inl (fol_eq w h H σ Q _ _ _ _ rh r1 r2 o)
  · exact .inl (fol_eq w h H σ Q _ _ _ _ rh r1 r2 o)
end
end AB
namespace My
open PySem AB
/-- _law_hand(script): slots 0=script 1=cells 2=cell -/
noncomputable def b__law_hand : Ms :=
  (sSeq (sSet 1 (mL (lComp (.nm 2) [2] (iSeq (mSl (mV 0) oNone (oSome (mC (.int 63))))) tYesM (mN fAbs (aCons (mN fInt (aCons (mV 2) aNil)) aNil))))) (sSeq (sRet (mNew (lLst (aCons (mV 1) (aCons (mC (.int 0)) (aCons (mC (.int 0)) (aCons (mOp2 fAdd (mC (.int 1)) (mN fLen (aCons (mV 1) aNil))) (aCons (mC (.int 0)) aNil)))))))) sNil))
noncomputable def m__law_hand : FnL := mDefL 1 3 b__law_hand
/-- _law_draw(hand, many): slots 0=hand 1=many 2=cell 3=digit 4=number -/
noncomputable def b__law_draw : Ms :=
  (sSeq (sIf (tAndM (tBl (mOp2 fEq (mOp2 fIx (mV 0) (mC (.int 2))) (mC (.int 0)))) (tBl (mOp2 cLt (mOp2 fIx (mV 0) (mC (.int 1))) (mN fLen (aCons (mOp2 fIx (mV 0) (mC (.int 0))) aNil))))) (sSeq (sSet 2 (mOp2 fIx (mOp2 fIx (mV 0) (mC (.int 0))) (mOp2 fIx (mV 0) (mC (.int 1))))) (sSeq (sSub (mV 0) (mC (.int 1)) (mOp2 fAdd (mOp2 fIx (mV 0) (mC (.int 1))) (mC (.int 1)))) (sSeq (sSub (mV 0) (mC (.int 3)) (mOp2 fMod (mN fInt (aCons (mOp2 fAdd (mOp2 fAdd (mOp2 fMul (mOp2 fIx (mV 0) (mC (.int 3))) (mC (.int 69621))) (mV 2)) (mC (.int 11))) aNil)) (mC (.int 2147483629)))) (sSeq (sIf (tBl (mOp2 cGe (mV 2) (mOp2 fPow (mC (.int 10)) (mC (.int 18))))) (sSeq (sSub (mV 0) (mC (.int 2)) (mV 2)) sNil) sNil) sNil)))) sNil) (sSeq (sIf (tBl (mOp2 cGt (mOp2 fIx (mV 0) (mC (.int 2))) (mC (.int 0)))) (sSeq (sSet 3 (mOp2 fMod (mN fInt (aCons (mOp2 fIx (mV 0) (mC (.int 2))) aNil)) (mV 1))) (sSeq (sSub (mV 0) (mC (.int 2)) (mOp2 fDiv (mOp2 fIx (mV 0) (mC (.int 2))) (mV 1))) (sSeq (sRet (mV 3)) sNil))) sNil) (sSeq (sSub (mV 0) (mC (.int 4)) (mOp2 fAdd (mOp2 fIx (mV 0) (mC (.int 4))) (mC (.int 1)))) (sSeq (sSet 4 (mOp2 fMod (mN fInt (aCons (mOp2 fMul (mN fInt (aCons (mOp2 fAdd (mOp2 fIx (mV 0) (mC (.int 3))) (mOp2 fMul (mC (.int 7919)) (mOp2 fIx (mV 0) (mC (.int 4))))) aNil)) (mC (.int 48271))) aNil)) (mC (.int 2147483647)))) (sSeq (sSet 4 (mOp2 fMod (mN fInt (aCons (mOp2 fMul (mV 4) (mOp2 fAdd (mOp2 fDiv (mV 4) (mC (.int 1009))) (mC (.int 69621)))) aNil)) (mC (.int 2147483647)))) (sSeq (sSet 4 (mOp2 fMod (mN fInt (aCons (mOp2 fMul (mV 4) (mOp2 fAdd (mOp2 fDiv (mV 4) (mC (.int 2003))) (mC (.int 40692)))) aNil)) (mC (.int 2147483399)))) (sSeq (sRet (mOp2 fMod (mN fInt (aCons (mOp2 fDiv (mV 4) (mC (.int 16))) aNil)) (mV 1))) sNil)))))))
noncomputable def m__law_draw : Fn := mDef 2 5 b__law_draw
/-- Plan_keep(self, state, steps): slots 0=self 1=state 2=steps -/
noncomputable def b_Plan_keep : Ms :=
  (sSeq (sFldM ["Plan", "RawPlan"] "kept_state" (mV 0) (mV 1)) (sSeq (sFldM ["Plan", "RawPlan"] "kept_steps" (mV 0) (mV 2)) sNil))
noncomputable def m_Plan_keep : Fn := mDefK 3 3 b_Plan_keep
/-- is_integer(thing): slots 0=thing -/
noncomputable def b_is_integer : Ms :=
  (sSeq (sRet (mAnd (mIsi .int (mV 0)) (mNot (mIsi .bl (mV 0))))) sNil)
noncomputable def m_is_integer : Fn := mDef 1 1 b_is_integer
/-- is_deed_step(thing): slots 0=thing -/
noncomputable def b_is_deed_step : Ms :=
  (sSeq (sRet (mAnd (mIsi .tup (mV 0)) (mAnd (mOp2 fEq (mN fLen (aCons (mV 0) aNil)) (mC (.int 1))) (mAnd (mIsi .str (mOp2 fIx (mV 0) (mC (.int 0)))) (mOp2 fIn (mOp2 fIx (mV 0) (mC (.int 0))) (mN fTup (aCons (mC (.str "begin")) (aCons (mC (.str "done")) aNil)))))))) sNil)
noncomputable def m_is_deed_step : Fn := mDef 1 1 b_is_deed_step
/-- _law_bare(steps): slots 0=steps 1=step -/
noncomputable def b__law_bare : Ms :=
  (sSeq (sRet (mN fTuple (aCons (mL (lComp (.nm 1) [1] (iSeq (mV 0)) (tBl (mOp2 fNe (mOp2 fIx (mV 1) (mC (.int 0))) (mC (.str "barrier")))) (mV 1))) aNil))) sNil)
noncomputable def m__law_bare : Fn := mDef 1 2 b__law_bare
/-- bare_steps(plan): slots 0=plan 1=step -/
noncomputable def b_bare_steps : Ms :=
  (sSeq (sRet (mN fTuple (aCons (mL (lComp (.nm 1) [1] (iSeq (mFld ["Plan", "RawPlan"] "kept_steps" (mV 0))) (tBl (mOp2 fNe (mOp2 fIx (mV 1) (mC (.int 0))) (mC (.str "barrier")))) (mV 1))) aNil))) sNil)
noncomputable def m_bare_steps : Fn := mDef 1 2 b_bare_steps
/-- Plan_parts(self): slots 0=self -/
noncomputable def b_Plan_parts : Ms :=
  (sSeq (sRet (mN fTup (aCons (mFld ["Plan", "RawPlan"] "kept_state" (mV 0)) (aCons (mFld ["Plan", "RawPlan"] "kept_steps" (mV 0)) aNil)))) sNil)
noncomputable def m_Plan_parts : Fn := mDefK 1 1 b_Plan_parts
/-- Plan_steps(self): slots 0=self -/
noncomputable def b_Plan_steps : Ms :=
  (sSeq (sRet (mFld ["Plan", "RawPlan"] "kept_steps" (mV 0))) sNil)
noncomputable def m_Plan_steps : Fn := mDefK 1 1 b_Plan_steps
/-- _law_with(short, lot): slots 0=short 1=lot 2=found 3=place -/
noncomputable def b__law_with : Ms :=
  (sSeq (sSet 2 (mNew (lLst aNil))) (sSeq (sFor (.nm 3) (iRange1 (aCons (mOp2 fAdd (mN fLen (aCons (mV 0) aNil)) (mC (.int 1))) aNil)) (sSeq (sIf (tBl (mOp2 fIn (mV 3) (mV 1))) (sSeq (sExpr (mBM fApp (mV 2) (aCons (mN fTup (aCons (mC (.str "barrier")) aNil)) aNil))) sNil) sNil) (sSeq (sIf (tBl (mOp2 cLt (mV 3) (mN fLen (aCons (mV 0) aNil)))) (sSeq (sExpr (mBM fApp (mV 2) (aCons (mOp2 fIx (mV 0) (mV 3)) aNil))) sNil) sNil) sNil))) (sSeq (sRet (mN fTuple (aCons (mV 2) aNil))) sNil)))
noncomputable def m__law_with : Fn := mDef 2 4 b__law_with
/-- places_of(plan): slots 0=plan 1=found 2=place 3=step -/
noncomputable def b_places_of : Ms :=
  (sSeq (sSet 1 mDNew) (sSeq (sSet 2 (mC (.int 0))) (sSeq (sFor (.nm 3) (iSeq (mFld ["Plan", "RawPlan"] "kept_steps" (mV 0))) (sSeq (sIf (tBl (mOp2 fEq (mOp2 fIx (mV 3) (mC (.int 0))) (mC (.str "barrier")))) (sSeq (sDPutM (mV 1) (mV 2) (mC (.bl true))) sNil) (sSeq (sAug (fun i j => i + j) 2 (mC (.int 1))) sNil)) sNil)) (sSeq (sRet (mN fTuple (aCons (mL (lN fSortB (aCons (mV 1) aNil))) aNil))) sNil))))
noncomputable def m_places_of : Fn := mDef 1 4 b_places_of
/-- Plan_state(self): slots 0=self -/
noncomputable def b_Plan_state : Ms :=
  (sSeq (sRet (mFld ["Plan", "RawPlan"] "kept_state" (mV 0))) sNil)
noncomputable def m_Plan_state : Fn := mDefK 1 1 b_Plan_state
/-- _law_value(hand): slots 0=hand 1=k -/
noncomputable def b__law_value : Ms :=
  (sSeq (sRet (mN fTuple (aCons (mL (lComp (.nm 1) [1] (iRange1 (aCons (mOp2 fIx (mL (lLst (aCons (mC (.int 1)) (aCons (mC (.int 1)) (aCons (mC (.int 2)) (aCons (mC (.int 0)) aNil)))))) (mN m__law_draw (aCons (mV 0) (aCons (mC (.int 4)) aNil)))) aNil)) tYesM (mN m__law_draw (aCons (mV 0) (aCons (mC (.int 3)) aNil))))) aNil))) sNil)
noncomputable def m__law_value : Fn := mDef 1 2 b__law_value
/-- _law_any(hand, things): slots 0=hand 1=things -/
noncomputable def b__law_any : Ms :=
  (sSeq (sRet (mOp2 fIx (mV 1) (mN m__law_draw (aCons (mV 0) (aCons (mN fLen (aCons (mV 1) aNil)) aNil))))) sNil)
noncomputable def m__law_any : Fn := mDef 2 2 b__law_any
/-- is_between(thing, least, most): slots 0=thing 1=least 2=most -/
noncomputable def b_is_between : Ms :=
  (sSeq (sRet (mAnd (mN m_is_integer (aCons (mV 0) aNil)) (mChain cLe cLe (mV 1) (mV 0) (mV 2)))) sNil)
noncomputable def m_is_between : Fn := mDef 3 3 b_is_between
/-- RawPlan___init__(self, state, steps): slots 0=self 1=state 2=steps -/
noncomputable def b_RawPlan___init__ : Ms :=
  (sSeq (sExpr (mMeth [("RawPlan", m_Plan_keep)] "keep" (mV 0) (aCons (mV 1) (aCons (mV 2) aNil)))) sNil)
noncomputable def m_RawPlan___init__ : Fn := mDefK 3 3 b_RawPlan___init__
/-- Plan___eq__(self, other): slots 0=self 1=other -/
noncomputable def b_Plan___eq__ : Ms :=
  (sSeq (sRet (mAnd (mIsiI [("Plan", true), ("RawPlan", true)] (mV 1)) (mOp2 fEq (mMeth [("Plan", m_Plan_parts), ("RawPlan", m_Plan_parts)] "parts" (mV 0) aNil) (mMeth [("Plan", m_Plan_parts), ("RawPlan", m_Plan_parts)] "parts" (mV 1) aNil)))) sNil)
noncomputable def m_Plan___eq__ : Fn := mDefK 2 2 b_Plan___eq__
/-- places(plan): slots 0=plan -/
noncomputable def b_places : Ms :=
  (sSeq (sRet (mN m_places_of (aCons (mV 0) aNil))) sNil)
noncomputable def m_places : Fn := mDef 1 1 b_places
/-- _law_pool(hand): slots 0=hand 1=found 2=k 3=value -/
noncomputable def b__law_pool : Ms :=
  (sSeq (sSet 1 (mNew (lLst aNil))) (sSeq (sFor (.nm 2) (iRange1 (aCons (mC (.int 3)) aNil)) (sSeq (sSet 3 (mN m__law_value (aCons (mV 0) aNil))) (sSeq (sIf (tBl (mOp2 fNotIn (mV 3) (mV 1))) (sSeq (sExpr (mBM fApp (mV 1) (aCons (mV 3) aNil))) sNil) sNil) sNil))) (sSeq (sRet (mV 1)) sNil)))
noncomputable def m__law_pool : FnL := mDefL 1 4 b__law_pool
/-- _law_steps(hand, pool, sectors, many): slots 0=hand 1=pool 2=sectors 3=many 4=found 5=under 6=k 7=way -/
noncomputable def b__law_steps : Ms :=
  (sSeq (sSet 4 (mNew (lLst aNil))) (sSeq (sSet 5 (mC (.int 0))) (sSeq (sFor (.nm 6) (iRange1 (aCons (mV 3) aNil)) (sSeq (sSet 7 (mN m__law_draw (aCons (mV 0) (aCons (mC (.int 8)) aNil)))) (sSeq (sIf (tBl (mOp2 cLt (mV 7) (mC (.int 4)))) (sSeq (sExpr (mBM fApp (mV 4) (aCons (mN fTup (aCons (mC (.str "write")) (aCons (mN m__law_draw (aCons (mV 0) (aCons (mV 2) aNil))) (aCons (mN m__law_any (aCons (mV 0) (aCons (mV 1) aNil))) aNil)))) aNil))) sNil) (sSeq (sIf (tBl (mOp2 cLt (mV 7) (mC (.int 6)))) (sSeq (sExpr (mBM fApp (mV 4) (aCons (mN fTup (aCons (mC (.str "barrier")) aNil)) aNil))) sNil) (sSeq (sIf (tOrM (tBl (mOp2 fEq (mV 7) (mC (.int 6)))) (tBl (mOp2 fEq (mV 5) (mC (.int 0))))) (sSeq (sExpr (mBM fApp (mV 4) (aCons (mN fTup (aCons (mC (.str "begin")) aNil)) aNil))) (sSeq (sSet 5 (mOp2 fAdd (mV 5) (mC (.int 1)))) sNil)) (sSeq (sExpr (mBM fApp (mV 4) (aCons (mN fTup (aCons (mC (.str "done")) aNil)) aNil))) (sSeq (sSet 5 (mOp2 fSub (mV 5) (mC (.int 1)))) sNil))) sNil)) sNil)) sNil))) (sSeq (sRet (mN fTuple (aCons (mV 4) aNil))) sNil))))
noncomputable def m__law_steps : Fn := mDef 4 8 b__law_steps
/-- is_value(thing): slots 0=thing 1=item -/
noncomputable def b_is_value : Ms :=
  (sSeq (sIf (tOrM (tNotM (tOf (mIsi .tup (mV 0)))) (tBl (mOp2 cGt (mN fLen (aCons (mV 0) aNil)) (mC (.int 32))))) (sSeq (sRet (mC (.bl false))) sNil) sNil) (sSeq (sRet (mN fAll (aCons (mL (lComp (.nm 1) [1] (iSeq (mV 0)) tYesM (mN m_is_between (aCons (mV 1) (aCons (mC (.int 0)) (aCons (mC (.int 1000000000000)) aNil)))))) aNil))) sNil))
noncomputable def m_is_value : Fn := mDef 1 2 b_is_value
/-- is_index(thing, many): slots 0=thing 1=many -/
noncomputable def b_is_index : Ms :=
  (sSeq (sRet (mN m_is_between (aCons (mV 0) (aCons (mC (.int 0)) (aCons (mOp2 fSub (mV 1) (mC (.int 1))) aNil))))) sNil)
noncomputable def m_is_index : Fn := mDef 2 2 b_is_index
/-- is_held(thing): slots 0=thing -/
noncomputable def b_is_held : Ms :=
  (sSeq (sRet (mOr (mOp2 fIsN (mV 0) (mC .non)) (mN m_is_value (aCons (mV 0) aNil)))) sNil)
noncomputable def m_is_held : Fn := mDef 1 1 b_is_held
/-- is_disk_step(thing, sectors): slots 0=thing 1=sectors -/
noncomputable def b_is_disk_step : Ms :=
  (sSeq (sIf (tOrM (tNotM (tOf (mIsi .tup (mV 0)))) (tOrM (tBl (mOp2 fEq (mN fLen (aCons (mV 0) aNil)) (mC (.int 0)))) (tNotM (tOf (mIsi .str (mOp2 fIx (mV 0) (mC (.int 0)))))))) (sSeq (sRet (mC (.bl false))) sNil) sNil) (sSeq (sIf (tBl (mOp2 fEq (mOp2 fIx (mV 0) (mC (.int 0))) (mC (.str "barrier")))) (sSeq (sRet (mOp2 fEq (mN fLen (aCons (mV 0) aNil)) (mC (.int 1)))) sNil) sNil) (sSeq (sRet (mAnd (mOp2 fEq (mOp2 fIx (mV 0) (mC (.int 0))) (mC (.str "write"))) (mAnd (mOp2 fEq (mN fLen (aCons (mV 0) aNil)) (mC (.int 3))) (mAnd (mN m_is_index (aCons (mOp2 fIx (mV 0) (mC (.int 1))) (aCons (mV 1) aNil))) (mN m_is_value (aCons (mOp2 fIx (mV 0) (mC (.int 2))) aNil)))))) sNil)))
noncomputable def m_is_disk_step : Fn := mDef 2 2 b_is_disk_step
/-- check_places(plan, thing): slots 0=plan 1=thing 2=many 3=place 4=one 5=other -/
noncomputable def b_check_places : Ms :=
  (sSeq (sSet 2 (mOp2 fAdd (mN fLen (aCons (mN m_bare_steps (aCons (mV 0) aNil)) aNil)) (mC (.int 1)))) (sSeq (sIf (tOrM (tNotM (tOf (mIsiC [] .tup (mV 1)))) (tNotM (tOf (mN fAll (aCons (mL (lComp (.nm 3) [3] (iSeq (mV 1)) tYesM (mN m_is_index (aCons (mV 3) (aCons (mV 2) aNil))))) aNil))))) (sSeq (sRaise "NoPlaces") sNil) sNil) (sSeq (sIf (tOf (mN fAny (aCons (mL (lComp (.tp [(.nm 4), (.nm 5)]) [4, 5] (iZip (aCons (mV 1) (aCons (mSl (mV 1) (oSome (mC (.int 1))) oNone) aNil))) tYesM (mOp2 cGe (mV 4) (mV 5)))) aNil))) (sSeq (sRaise "NoPlaces") sNil) sNil) sNil)))
noncomputable def m_check_places : Fn := mDef 2 6 b_check_places
/-- bare(plan): slots 0=plan -/
noncomputable def b_bare : Ms :=
  (sSeq (sRet (mMake "RawPlan" m_RawPlan___init__ (aCons (mFld ["Plan", "RawPlan"] "kept_state" (mV 0)) (aCons (mN m_bare_steps (aCons (mV 0) aNil)) aNil)))) sNil)
noncomputable def m_bare : Fn := mDefK 1 1 b_bare
/-- is_state(thing): slots 0=thing 1=item -/
noncomputable def b_is_state : Ms :=
  (sSeq (sRet (mAnd (mIsi .tup (mV 0)) (mAnd (mChain cLe cLe (mC (.int 1)) (mN fLen (aCons (mV 0) aNil)) (mC (.int 64))) (mN fAll (aCons (mL (lComp (.nm 1) [1] (iSeq (mV 0)) tYesM (mN m_is_held (aCons (mV 1) aNil)))) aNil))))) sNil)
noncomputable def m_is_state : Fn := mDef 1 2 b_is_state
/-- with_barriers(plan, lot): slots 0=plan 1=lot 2=steps 3=found 4=place -/
noncomputable def b_with_barriers : Ms :=
  (sSeq (sExpr (mN m_check_places (aCons (mV 0) (aCons (mV 1) aNil)))) (sSeq (sSet 2 (mN m_bare_steps (aCons (mV 0) aNil))) (sSeq (sSet 3 (mNew (lLst aNil))) (sSeq (sFor (.nm 4) (iRange1 (aCons (mOp2 fAdd (mN fLen (aCons (mV 2) aNil)) (mC (.int 1))) aNil)) (sSeq (sIf (tBl (mOp2 fIn (mV 4) (mV 1))) (sSeq (sExpr (mBM fApp (mV 3) (aCons (mN fTup (aCons (mC (.str "barrier")) aNil)) aNil))) sNil) sNil) (sSeq (sExpr (mBM fExtT (mV 3) (aCons (mSl (mV 2) (oSome (mV 4)) (oSome (mOp2 fAdd (mV 4) (mC (.int 1))))) aNil))) sNil))) (sSeq (sRet (mMake "RawPlan" m_RawPlan___init__ (aCons (mFld ["Plan", "RawPlan"] "kept_state" (mV 0)) (aCons (mN fTuple (aCons (mV 3) aNil)) aNil)))) sNil)))))
noncomputable def m_with_barriers : Fn := mDefK 2 5 b_with_barriers
/-- Plan___init__(self, state, steps): slots 0=self 1=state 2=steps 3=under_way 4=index 5=step -/
noncomputable def b_Plan___init__ : Ms :=
  (sSeq (sIf (tOrM (tNotM (tOf (mN m_is_state (aCons (mV 1) aNil)))) (tBl (mOp2 fIn (mC .non) (mV 1)))) (sSeq sNever sNil) sNil) (sSeq (sIf (tOrM (tNotM (tOf (mIsi .tup (mV 2)))) (tBl (mOp2 cGt (mN fLen (aCons (mV 2) aNil)) (mC (.int 200))))) (sSeq sNever sNil) sNil) (sSeq (sSet 3 (mC (.int 0))) (sSeq (sFor (.tp [(.nm 4), (.nm 5)]) (iEnum (aCons (mV 2) aNil)) (sSeq (sIf (tAndM (tNotM (tOf (mN m_is_disk_step (aCons (mV 5) (aCons (mN fLen (aCons (mV 1) aNil)) aNil))))) (tNotM (tOf (mN m_is_deed_step (aCons (mV 5) aNil))))) (sSeq sNever sNil) sNil) (sSeq (sAug (fun i j => i + j) 3 (mOp2 fSub (mN fInt (aCons (mOp2 fEq (mOp2 fIx (mV 5) (mC (.int 0))) (mC (.str "begin"))) aNil)) (mN fInt (aCons (mOp2 fEq (mOp2 fIx (mV 5) (mC (.int 0))) (mC (.str "done"))) aNil)))) (sSeq (sIf (tBl (mOp2 cLt (mV 3) (mC (.int 0)))) (sSeq sNever sNil) sNil) sNil)))) (sSeq (sExpr (mMeth [("Plan", m_Plan_keep), ("RawPlan", m_Plan_keep)] "keep" (mV 0) (aCons (mV 1) (aCons (mV 2) aNil)))) sNil)))))
noncomputable def m_Plan___init__ : Fn := mDefK 3 6 b_Plan___init__
/-- _law_told(plan, lot): slots 0=plan 1=lot 2=told -/
noncomputable def b__law_told : Ms :=
  (sSeq (sSet 2 (mC (.str "let"))) (sSeq (sTryO [("NoPlaces", some ((sSeq (sSet 2 (mC (.str "none"))) sNil)))] (sSeq (sSet 2 (mMeth [("Plan", m_Plan_steps), ("RawPlan", m_Plan_steps)] "steps" (mN m_with_barriers (aCons (mV 0) (aCons (mV 1) aNil))) aNil)) sNil)) (sSeq (sRet (mV 2)) sNil)))
noncomputable def m__law_told : Fn := mDef 2 3 b__law_told
/-- _law_long_right(hand): slots 0=hand 1=many 2=steps 3=plan 4=lot 5=told 6=again 7=k 8=place -/
noncomputable def b__law_long_right : Ms :=
  (sSeq (sSet 1 (mOp2 fAdd (mC (.int 150)) (mN m__law_draw (aCons (mV 0) (aCons (mC (.int 51)) aNil))))) (sSeq (sSet 2 (mN fTuple (aCons (mL (lComp (.nm 7) [7] (iRange1 (aCons (mV 1) aNil)) tYesM (mN fTup (aCons (mC (.str "write")) (aCons (mN m__law_draw (aCons (mV 0) (aCons (mC (.int 2)) aNil))) (aCons (mN fTup (aCons (mOp2 fMod (mN fInt (aCons (mV 7) aNil)) (mC (.int 7))) aNil)) aNil)))))) aNil))) (sSeq (sSet 3 (mMake "Plan" m_Plan___init__ (aCons (mN fTup (aCons (mN fTup aNil) (aCons (mN fTup aNil) aNil))) (aCons (mV 2) aNil)))) (sSeq (sSet 4 (mN fTuple (aCons (mL (lComp (.nm 8) [8] (iRange1 (aCons (mOp2 fAdd (mV 1) (mC (.int 1))) aNil)) (tBl (mOp2 cGt (mN m__law_draw (aCons (mV 0) (aCons (mC (.int 5)) aNil))) (mC (.int 0)))) (mV 8))) aNil))) (sSeq (sSet 5 (mN m_with_barriers (aCons (mV 3) (aCons (mV 4) aNil)))) (sSeq (sIf (tOrM (tBl (mOp2 fNe (mMeth [("Plan", m_Plan_steps), ("RawPlan", m_Plan_steps)] "steps" (mV 5) aNil) (mN m__law_with (aCons (mV 2) (aCons (mV 4) aNil))))) (tOrM (tBl (mOp2 fNe (mN m_places (aCons (mV 5) aNil)) (mV 4))) (tBl (mOp2 (fNeI [("RawPlan", m_Plan___eq__)] [("RawPlan", "Plan"), ("RawPlan", "RawPlan")]) (mN m_bare (aCons (mV 5) aNil)) (mV 3))))) (sSeq (sRet (mC (.bl false))) sNil) sNil) (sSeq (sSet 6 (mN m_with_barriers (aCons (mV 5) (aCons (mN fTup (aCons (mC (.int 0)) (aCons (mV 1) aNil))) aNil)))) (sSeq (sRet (mAnd (mOp2 fEq (mMeth [("Plan", m_Plan_steps), ("RawPlan", m_Plan_steps)] "steps" (mV 6) aNil) (mOp2 fAdd (mOp2 fAdd (mN fTup (aCons (mN fTup (aCons (mC (.str "barrier")) aNil)) aNil)) (mV 2)) (mN fTup (aCons (mN fTup (aCons (mC (.str "barrier")) aNil)) aNil)))) (mOp2 fEq (mN m_places (aCons (mN m_bare (aCons (mV 5) aNil)) aNil)) (mN fTup aNil)))) sNil))))))))
noncomputable def m__law_long_right : Fn := mDef 1 9 b__law_long_right
/-- law(script): slots 0=script 1=hand 2=turn 3=sectors 4=pool 5=state 6=steps 7=plan 8=short 9=due 10=ahead 11=step 12=lot 13=told 14=odd 15=thing 16=k 17=place -/
noncomputable def b_law : Ms :=
  (sSeq (sSet 1 (mNew (lN m__law_hand (aCons (mV 0) aNil)))) (sSeq (sIf (tAndM (tBl (mOp2 fEq (mN m__law_draw (aCons (mV 1) (aCons (mC (.int 12)) aNil))) (mC (.int 0)))) (tNotM (tOf (mN m__law_long_right (aCons (mV 1) aNil))))) (sSeq (sRet (mC (.bl false))) sNil) sNil) (sSeq (sFor (.nm 2) (iRange1 (aCons (mC (.int 4)) aNil)) (sSeq (sSet 3 (mOp2 fAdd (mC (.int 1)) (mN m__law_draw (aCons (mV 1) (aCons (mC (.int 3)) aNil))))) (sSeq (sSet 4 (mL (lN m__law_pool (aCons (mV 1) aNil)))) (sSeq (sSet 5 (mN fTuple (aCons (mL (lComp (.nm 16) [16] (iRange1 (aCons (mV 3) aNil)) tYesM (mN m__law_any (aCons (mV 1) (aCons (mV 4) aNil))))) aNil))) (sSeq (sSet 6 (mN m__law_steps (aCons (mV 1) (aCons (mV 4) (aCons (mV 3) (aCons (mN m__law_draw (aCons (mV 1) (aCons (mC (.int 15)) aNil))) aNil)))))) (sSeq (sSet 7 (mMake "Plan" m_Plan___init__ (aCons (mV 5) (aCons (mV 6) aNil)))) (sSeq (sSet 8 (mN m__law_bare (aCons (mV 6) aNil))) (sSeq (sIf (tOrM (tBl (mOp2 (fNeI [("RawPlan", m_Plan___eq__)] [("RawPlan", "Plan"), ("RawPlan", "RawPlan")]) (mN m_bare (aCons (mV 7) aNil)) (mMake "Plan" m_Plan___init__ (aCons (mV 5) (aCons (mV 8) aNil))))) (tOrM (tBl (mOp2 (fNeI [("RawPlan", m_Plan___eq__)] [("RawPlan", "Plan"), ("RawPlan", "RawPlan")]) (mN m_bare (aCons (mN m_bare (aCons (mV 7) aNil)) aNil)) (mN m_bare (aCons (mV 7) aNil)))) (tBl (mOp2 fNe (mN m_places (aCons (mN m_bare (aCons (mV 7) aNil)) aNil)) (mN fTup aNil))))) (sSeq (sRet (mC (.bl false))) sNil) sNil) (sSeq (sSet 9 (mNew (lLst aNil))) (sSeq (sSet 10 (mC (.int 0))) (sSeq (sFor (.nm 11) (iSeq (mV 6)) (sSeq (sIf (tAndM (tBl (mOp2 fEq (mOp2 fIx (mV 11) (mC (.int 0))) (mC (.str "barrier")))) (tBl (mOp2 fNotIn (mV 10) (mV 9)))) (sSeq (sExpr (mBM fApp (mV 9) (aCons (mV 10) aNil))) sNil) sNil) (sSeq (sSet 10 (mOp2 fAdd (mV 10) (mN fInt (aCons (mOp2 fNe (mOp2 fIx (mV 11) (mC (.int 0))) (mC (.str "barrier"))) aNil)))) sNil))) (sSeq (sIf (tBl (mOp2 fNe (mN m_places (aCons (mV 7) aNil)) (mN fTuple (aCons (mV 9) aNil)))) (sSeq (sRet (mC (.bl false))) sNil) sNil) (sSeq (sSet 12 (mN fTuple (aCons (mL (lComp (.nm 17) [17] (iRange1 (aCons (mOp2 fAdd (mN fLen (aCons (mV 8) aNil)) (mC (.int 1))) aNil)) (tBl (mOp2 fEq (mN m__law_draw (aCons (mV 1) (aCons (mC (.int 3)) aNil))) (mC (.int 0)))) (mV 17))) aNil))) (sSeq (sSet 13 (mN m_with_barriers (aCons (mV 7) (aCons (mV 12) aNil)))) (sSeq (sIf (tOrM (tBl (mOp2 fNe (mMeth [("Plan", m_Plan_steps), ("RawPlan", m_Plan_steps)] "steps" (mV 13) aNil) (mN m__law_with (aCons (mV 8) (aCons (mV 12) aNil))))) (tOrM (tBl (mOp2 fNe (mMeth [("Plan", m_Plan_state), ("RawPlan", m_Plan_state)] "state" (mV 13) aNil) (mV 5))) (tBl (mOp2 fNe (mN m_places (aCons (mV 13) aNil)) (mV 12))))) (sSeq (sRet (mC (.bl false))) sNil) sNil) (sSeq (sIf (tOrM (tBl (mOp2 (fNeI [("RawPlan", m_Plan___eq__)] [("RawPlan", "Plan"), ("RawPlan", "RawPlan")]) (mN m_bare (aCons (mV 13) aNil)) (mN m_bare (aCons (mV 7) aNil)))) (tBl (mOp2 cGt (mN fLen (aCons (mMeth [("Plan", m_Plan_steps), ("RawPlan", m_Plan_steps)] "steps" (mN m_with_barriers (aCons (mV 7) (aCons (mN fTuple (aCons (mV 9) aNil)) aNil))) aNil) aNil)) (mN fLen (aCons (mV 6) aNil))))) (sSeq (sRet (mC (.bl false))) sNil) sNil) (sSeq (sSet 14 (mL (lLst (aCons (mL (lN lList (aCons (mV 12) aNil))) (aCons (mOp2 fAdd (mV 12) (mV 12)) (aCons (mOp2 fAdd (mV 12) (mN fTup (aCons (mOp2 fAdd (mN fLen (aCons (mV 8) aNil)) (mC (.int 1))) aNil))) (aCons (mN fTup (aCons (mOp1 fNeg (mC (.int 1))) aNil)) (aCons (mN fTup (aCons (mC (.bl true)) aNil)) (aCons (mC .non) (aCons (mC (.str "01")) (aCons (mN fTup (aCons (mC (.str "0")) aNil)) (aCons (mN fTup (aCons (mC (.int 1)) (aCons (mC (.int 0)) aNil))) (aCons mDNew aNil))))))))))))) (sSeq (sSet 15 (mOp2 fIx (mV 14) (mN m__law_draw (aCons (mV 1) (aCons (mC (.int 10)) aNil))))) (sSeq (sIf (tAndM (tBl (mOp2 fEqE (mV 15) (mN fTup aNil))) (tOf (mIsi .tup (mV 15)))) (sSeq (sSet 15 (mN fTup (aCons (mC (.int 0)) (aCons (mC (.int 0)) aNil)))) sNil) sNil) (sSeq (sIf (tBl (mOp2 fNe (mN m__law_told (aCons (mV 7) (aCons (mV 15) aNil))) (mC (.str "none")))) (sSeq (sRet (mC (.bl false))) sNil) sNil) sNil)))))))))))))))))))) (sSeq (sRet (mC (.bl true))) sNil))))
noncomputable def m_law : Fn := mDef 1 18 b_law
end My
namespace My
open PySem AB L2
noncomputable def hand (cs : List Int) (a b s t : Int) : AO := .lst [.lst (cs.map .int), .int a, .int b, .int s, .int t]
noncomputable def IsP (cs : List Int) (o : AO) : Prop := ∃ a b s t, o = hand cs a b s t ∧ 0 ≤ a ∧ a ≤ cs.length ∧ 0 ≤ b
theorem mod_lo (k : Int) (hk : 0 < k) (x : Int) : -1152921504606846976 ≤ x % k := by
  have := Int.emod_nonneg x (show k ≠ 0 by omega)
  omega
theorem mod_hi (k : Int) (hk : 0 < k) (hk2 : k ≤ 2147483647) (x : Int) : x % k ≤ 1152921504606846976 := by
  have := Int.emod_lt_of_pos x hk
  omega
theorem draw_ok {cs : List Int} (hc : ∀ c ∈ cs, 0 ≤ c) {P : AO} (hP : IsP cs P) {many : Int} (h1 : 1 ≤ many) (h2 : many ≤ 1000000001) (tl : AH) :
    ∃ r P', m__law_draw [.loc 0, .int many] (P :: tl) = .ok (.int r) (P' :: tl) ∧ IsP cs P' ∧ 0 ≤ r ∧ r < many := by
  have hm : 0 < many := by omega
  have hm60 : many ≤ 1152921504606846976 := by omega
  have mm : ∀ x : Int, 0 ≤ x % many ∧ x % many < many := fun x => ⟨Int.emod_nonneg x (by omega), Int.emod_lt_of_pos x hm⟩
  have l1 := mod_lo 2147483647 (by decide)
  have l2 := mod_lo 2147483399 (by decide)
  have u1 := mod_hi 2147483647 (by decide) (by decide)
  have u2 := mod_hi 2147483399 (by decide) (by decide)
  obtain ⟨a, b, s, t, rfl, ha, ha2, hb⟩ := hP
  by_cases c1 : b = 0 ∧ a < cs.length
  · obtain ⟨rfl, c1⟩ := c1
    obtain ⟨c, hcx, hcm⟩ := atI_some ha c1
    have hc0 := hc c hcm
    by_cases c2 : 1000000000000000000 ≤ c
    · have c3 : 0 < c := by omega
      simp [m__law_draw, mDef, b__law_draw, hand, ixN, c1, atI_map, hcx, c2, c3, hm, hm60, finD]
      exact ⟨_, _, ⟨rfl, rfl⟩, ⟨_, _, _, _, rfl, by omega, by omega, Int.ediv_nonneg hc0 (by omega)⟩, mm _⟩
    · simp [m__law_draw, mDef, b__law_draw, hand, ixN, c1, atI_map, hcx, c2, hm, hm60, finD, l1, l2, u1, u2]
      exact ⟨_, _, ⟨rfl, rfl⟩, ⟨_, _, _, _, rfl, by omega, by omega, by omega⟩, mm _⟩
  · by_cases c2 : 0 < b
    · have c3 : ¬ b = 0 := by omega
      simp [m__law_draw, mDef, b__law_draw, hand, ixN, c3, c2, hm, hm60, finD]
      exact ⟨_, _, ⟨rfl, rfl⟩, ⟨_, _, _, _, rfl, by omega, by omega, Int.ediv_nonneg hb (by omega)⟩, mm _⟩
    · have c3 : b = 0 := by omega
      subst c3
      have c4 : ¬ a < cs.length := fun z => c1 ⟨rfl, z⟩
      simp [m__law_draw, mDef, b__law_draw, hand, ixN, c4, hm, hm60, finD, l1, l2, u1, u2]
      exact ⟨_, _, ⟨rfl, rfl⟩, ⟨_, _, _, _, rfl, by omega, by omega, by omega⟩, mm _⟩
noncomputable def absI (i : Int) : Int := if i < 0 then -i else i
theorem absI_nn (i : Int) : 0 ≤ absI i := by
  unfold absI
  split <;> omega
theorem hand_ok (ns : List Int) (hl : ns.length ≤ 63) : ∃ cs : List Int, (∀ c ∈ cs, 0 ≤ c) ∧ ∃ s, m__law_hand [.rol (ns.map .int)] [] = .ok [.lst (cs.map .int), .int 0, .int 0, .int s, .int 0] [] := by
  refine ⟨ns.map absI, fun c hc => ?_, 1 + ns.length, ?_⟩
  · obtain ⟨i, _, rfl⟩ := List.mem_map.mp hc
    exact absI_nn i
  have hc : ∀ (all0 : List D) (b : Option D), compGo (.nm 2) tYesM (mN fAbs (aCons (mN fInt (aCons (mV 2) aNil)) aNil)) none all0 [some (.rol (ns.map .int)), b, none] (ns.map .int) [] = .ok (ns.map fun i => .int (absI i)) [] := by
    intro all0 b
    exact comp_all _ _ _ fun i hi => ⟨[some (.rol (ns.map .int)), b, some (.int i)], rfl, by simp [absI]⟩
  have e1 : cutD (ns.map D.int) none (some 63) = ns.map .int := by
    have := cut_to D.int ns 63
    rw [List.take_of_length_le hl] at this
    exact this
  have l1 : ns.length ≤ big := by rw [big_eq]; omega
  have l2 : (5 : Nat) ≤ big := by decide
  have e2 : underL 0 [D.lst (ns.map fun i => D.int (absI i)), D.int 0, D.int 0, D.int (1 + ns.length), D.int 0] = true := by
    simp [underL, D.under, under_intF]
  have e3 := finL_new [] [D.lst (ns.map fun i => D.int (absI i)), D.int 0, D.int 0, D.int (1 + ns.length), D.int 0] e2
  have e4 : (ns.map absI).map D.int = ns.map fun i => D.int (absI i) := by rw [List.map_map]; rfl
  rw [e4]
  simp [m__law_hand, mDefL, b__law_hand, wipeG, e1, hc, l1, l2]
  simpa using e3
theorem any_ok {cs : List Int} (hc : ∀ c ∈ cs, 0 ≤ c) {P : AO} (hP : IsP cs P) (ds : List D) (h1 : 1 ≤ ds.length) (h2 : ds.length ≤ 1000000) (tl : AH) :
    ∃ x P', m__law_any [.loc 0, .lst ds] (P :: tl) = .ok x (P' :: tl) ∧ IsP cs P' ∧ x ∈ ds := by
  obtain ⟨r, P', e, hP', r0, r1⟩ := draw_ok hc hP (many := ds.length) (by omega) (by omega) tl
  obtain ⟨x, hx, hm⟩ := atI_some r0 r1
  refine ⟨x, P', ?_, hP', hm⟩
  have fin : ∀ x : D, finD (tl.length + 1) (P :: tl) x (P' :: tl) = .ok x (P' :: tl) := fun x => by
    unfold finD
    rw [if_pos (by simp)]
  simp [m__law_any, mDef, b__law_any, e, hx, fin]
end My
namespace My
open PySem AB L2
noncomputable abbrev Val := List Int
noncomputable def vD (v : Val) : D := .tup (v.map .int)
noncomputable def hvD : Option Val → D
  | none => .non
  | some v => vD v
structure VOk (v : Val) : Prop where
  bd : ∀ k ∈ v, 0 ≤ k ∧ k ≤ 1000000000000
  len : v.length ≤ 32
theorem ints_of (zs : List (Nat × D)) (h : ∀ z ∈ zs, ∃ k : Int, z.2 = .int k ∧ 0 ≤ k ∧ k < 3) : ∃ v : Val, zs.map (·.2) = v.map D.int ∧ (∀ k ∈ v, 0 ≤ k ∧ k < 3) ∧ v.length = zs.length := by
  induction zs with
  | nil => exact ⟨[], rfl, by simp, rfl⟩
  | cons z zs ih =>
    obtain ⟨v, e, hv, hl⟩ := ih fun y hy => h y (List.mem_cons_of_mem _ hy)
    obtain ⟨k, ek, k0, k1⟩ := h z List.mem_cons_self
    refine ⟨k :: v, by simp [ek, e], fun j hj => ?_, by simp [hl]⟩
    rcases List.mem_cons.mp hj with rfl | hj
    · exact ⟨k0, k1⟩
    · exact hv j hj
theorem value_ok {cs : List Int} (hc : ∀ c ∈ cs, 0 ≤ c) {P : AO} (hP : IsP cs P) (tl : AH) :
    ∃ v P', m__law_value [.loc 0] (P :: tl) = .ok (vD v) (P' :: tl) ∧ IsP cs P' ∧ VOk v := by
  obtain ⟨r, P1, e1, hP1, r0, r1⟩ := draw_ok hc hP (many := 4) (by omega) (by omega) tl
  obtain ⟨n, hn, hn2⟩ : ∃ n : Nat, atI [D.int 1, D.int 1, D.int 2, D.int 0] r = some (.int n) ∧ n ≤ 2 := by
    have : r = 0 ∨ r = 1 ∨ r = 2 ∨ r = 3 := by omega
    rcases this with rfl | rfl | rfl | rfl
    · exact ⟨1, rfl, by omega⟩
    · exact ⟨1, rfl, by omega⟩
    · exact ⟨2, rfl, by omega⟩
    · exact ⟨0, rfl, by omega⟩
  obtain ⟨zs, h', e2, ⟨P2, hP2, rfl⟩, e3, hz⟩ := comp_gen (p := .nm 1) (e := mN m__law_draw (aCons (mV 0) (aCons (mC (.int 3)) aNil))) (all0 := (List.range n).map fun i : Nat => D.int (i : Int)) (G0 := [some (.loc 0), none]) (I := fun h => ∃ P', IsP cs P' ∧ h = P' :: tl)
    (R := fun (_ : Nat) d => ∃ k : Int, d = .int k ∧ 0 ≤ k ∧ k < 3) (fun i : Nat => D.int (i : Int)) (List.range n)
    (by
      rintro i hi h ⟨P', hP', rfl⟩
      obtain ⟨k, P2, e, hP2, k0, k1⟩ := draw_ok hc hP' (many := 3) (by omega) (by omega) tl
      exact ⟨[some (.loc 0), some (.int i)], .int k, P2 :: tl, rfl, by simp [e], ⟨P2, hP2, rfl⟩, k, rfl, k0, k1⟩)
    (P1 :: tl) ⟨P1, hP1, rfl⟩
  obtain ⟨v, ev, hv, hl⟩ := ints_of zs hz
  have lz : zs.length = n := by
    have := congrArg List.length e3
    simpa using this
  have er : rangeD 0 n = (List.range n).map fun i : Nat => D.int (i : Int) := rangeD_eq n
  have c1 : okR (n : Int) := ⟨by omega, by omega⟩
  have c4 : n ≤ big := by rw [big_eq]; omega
  have b4 : (4 : Nat) ≤ big := by decide
  have fin : ∀ x : D, finD (tl.length + 1) (P :: tl) x (P2 :: tl) = .ok x (P2 :: tl) := fun x => by
    unfold finD
    rw [if_pos (by simp)]
  rw [ev] at e2
  refine ⟨v, P2, ?_, hP2, ⟨fun k hk => by have := hv k hk; omega, by omega⟩⟩
  simp [m__law_value, mDef, b__law_value, e1, hn, c1, er, c4, b4, wipeG, e2, fin, vD]
end My
namespace My
open PySem AB L2
/-! values as data -/
noncomputable def vP (v : Val) : PyData := .tuple (v.map .int)
noncomputable def hvP : Option Val → PyData
  | none => .none
  | some v => vP v
theorem toP_v (v : Val) : toP (vD v) = some (vP v) := by
  show (toPs (v.map D.int)).map PyData.tuple = _
  rw [toPs_ints]
  rfl
theorem toP_hv (o : Option Val) : toP (hvD o) = some (hvP o) := by
  cases o with
  | none => rfl
  | some v => exact toP_v v
theorem lay_v (v : Val) : PyData.canLay0 (vP v) = true := by simp [vP, PyData.canLay0, lay_ints]
theorem dep_v (v : Val) : PyData.depth (vP v) = 1 := by simp [vP, PyData.depth, dep_ints]
theorem eqv_ints : ∀ a b : List Int, PyData.eqvAll (a.map PyData.int) (b.map PyData.int) = decide (a = b)
  | [], [] => by simp [PyData.eqvAll]
  | [], y :: b => by simp [PyData.eqvAll]
  | x :: a, [] => by simp [PyData.eqvAll]
  | x :: a, y :: b => by
    simp only [List.map_cons, PyData.eqvAll, PyData.eqv, eqv_ints a b]
    by_cases h : x = y
    · subst h
      simp
    · simp [h]
theorem eqv_v (a b : Val) : PyData.eqv (vP a) (vP b) = decide (a = b) := by
  simp only [vP, PyData.eqv]
  exact eqv_ints a b
theorem eqv_hv (a b : Option Val) : PyData.eqv (hvP a) (hvP b) = decide (a = b) := by
  cases a with
  | none =>
    cases b with
    | none => simp [hvP, PyData.eqv]
    | some b => simp [hvP, vP, PyData.eqv]
  | some a =>
    cases b with
    | none => simp [hvP, vP, PyData.eqv]
    | some b =>
      show PyData.eqv (vP a) (vP b) = _
      rw [eqv_v]
      simp
theorem lay_hv (o : Option Val) : PyData.canLay0 (hvP o) = true := by
  cases o with
  | none => simp [hvP, PyData.canLay0]
  | some v => exact lay_v v
theorem dep_hv (o : Option Val) : PyData.depth (hvP o) ≤ 1 := by
  cases o with
  | none => simp [hvP, PyData.depth]
  | some v => exact Nat.le_of_eq (dep_v v)
theorem toPs_hv : ∀ os : List (Option Val), toPs (os.map hvD) = some (os.map hvP)
  | [] => rfl
  | o :: os => by
    show (match toP (hvD o), toPs (os.map hvD) with | some p, some ps => some (p :: ps) | _, _ => none) = _
    rw [toP_hv, toPs_hv os]
    rfl
theorem lay_hvs : ∀ os : List (Option Val), PyData.canLayAll0 (os.map hvP) = true
  | [] => by simp [PyData.canLayAll0]
  | o :: os => by simp [PyData.canLayAll0, lay_hv o, lay_hvs os]
theorem dep_hvs : ∀ os : List (Option Val), PyData.depthAll (os.map hvP) ≤ 2
  | [] => by simp [PyData.depthAll]
  | o :: os => by
    have h1 := dep_hv o
    have h2 := dep_hvs os
    simp only [List.map_cons, PyData.depthAll]
    omega
theorem any_hv (o : Option Val) (os : List (Option Val)) : ((os.map hvP).any fun z => PyData.eqv z (hvP o)) = decide (o ∈ os) := by
  induction os with
  | nil => rfl
  | cons x os ih =>
    rw [List.map_cons, List.any_cons, ih, eqv_hv]
    by_cases h : x = o
    · subst h
      simp
    · have h2 : ¬ o = x := fun e => h e.symm
      simp [h, h2]
theorem okP_hv {h : AH} (o : Option Val) : okP h (hvD o) = some (hvP o) := by
  unfold okP
  have e : toPh h (hvD o) = some (hvP o) := by
    have := toP_hv o
    cases o <;> exact this
  rw [e]
  have : SeqAt.shaped (hvP o) = true := by
    have := dep_hv o
    simp [SeqAt.shaped, lay_hv]
    omega
  simp [this]
theorem shaped_hvs (os : List (Option Val)) : SeqAt.shaped (.list (os.map hvP)) = true := by
  have := dep_hvs os
  simp [SeqAt.shaped, PyData.canLay0, PyData.depth, lay_hvs]
  omega
theorem okP_hvO {h : AH} {n : Nat} {os : List (Option Val)} (hn : h[n]? = some (.lst (os.map hvD))) : okP h (.loc n) = some (.list (os.map hvP)) := by
  unfold okP
  have e : toPh h (.loc n) = some (.list (os.map hvP)) := by
    show (match h[n]? with | some (.lst ds) => (toPs ds).map PyData.list | _ => none) = _
    rw [hn]
    show (toPs (os.map hvD)).map PyData.list = _
    rw [toPs_hv]
    rfl
  rw [e]
  simp [shaped_hvs]
theorem notin_hvO {h : AH} {n : Nat} {os : List (Option Val)} (hn : h[n]? = some (.lst (os.map hvD))) (o : Option Val) : fNotIn (hvD o) (.loc n) h = .ok (.bl (!decide (o ∈ os))) h := by
  unfold fNotIn inD
  rw [okP_hv, okP_hvO hn]
  simp only [any_hv]
end My
namespace My
open PySem AB L2
theorem under_P {cs : List Int} {P : AO} (h : IsP cs P) (n : Nat) : P.under n = true := by
  obtain ⟨a, b, s, t, rfl, _⟩ := h
  simp [hand, AO.under, underL, D.under, under_ints]
theorem under_vs (n : Nat) (L : List Val) : underL n (L.map vD) = true := by
  induction L with
  | nil => simp [underL]
  | cons v L ih => simp [underL, ih, vD, D.under, under_ints]
theorem okCells_hand {cs : List Int} {P P2 : AO} (hP2 : IsP cs P2) (tl t : AH) : OkCells (tl.length + 1) (P :: tl) (P2 :: (tl ++ t)) := by
  intro m o hm e
  cases m with
  | zero =>
    simp at e
    subst e
    exact .inr (under_P hP2 _)
  | succ m =>
    refine .inl ?_
    have hm : m < tl.length := by omega
    rw [List.getElem?_cons_succ] at e ⊢
    rwa [List.getElem?_append_left hm] at e
theorem finD_hand {cs : List Int} {P P2 : AO} (hP2 : IsP cs P2) (tl t : AH) (d : D) (hd : d.under (tl.length + 1) = true) : finD (tl.length + 1) (P :: tl) d (P2 :: (tl ++ t)) = .ok d (P2 :: tl) := by
  unfold finD
  by_cases q : (P2 :: (tl ++ t)).length = tl.length + 1
  · have : t = [] := by
      simp at q
      exact q
    subst this
    simp
  · rw [if_neg q, if_pos ⟨hd, okCells_hand hP2 tl t⟩]
    simp
theorem finL_hand {cs : List Int} {P P2 : AO} (hP2 : IsP cs P2) (tl : AH) (ds : List D) (hd : underL (tl.length + 1) ds = true) : finL (tl.length + 1) (P :: tl) (.loc (tl.length + 1)) (P2 :: (tl ++ [.lst ds])) = .ok ds (P2 :: tl) := by
  unfold finL
  have e : (P2 :: (tl ++ [AO.lst ds]))[tl.length + 1]? = some (.lst ds) := by simp
  simp only [e]
  rw [if_pos ⟨Nat.le_refl _, hd, okCells_hand hP2 tl _⟩]
  simp
theorem pool_ok {cs : List Int} (hc : ∀ c ∈ cs, 0 ≤ c) {P : AO} (hP : IsP cs P) (tl : AH) :
    ∃ (L : List Val) (P' : AO), m__law_pool [.loc 0] (P :: tl) = .ok (L.map vD) (P' :: tl) ∧ IsP cs P' ∧ (∀ v ∈ L, VOk v) ∧ L.Nodup ∧ 1 ≤ L.length ∧ L.length ≤ 3 := by
  have hget : ∀ (P : AO) (o : AO), (P :: (tl ++ [o]))[tl.length + 1]? = some o := fun P o => by simp
  have hset : ∀ (P : AO) (o o' : AO), (P :: (tl ++ [o])).set (tl.length + 1) o' = P :: (tl ++ [o']) := fun P o o' => by simp
  obtain ⟨G', h', e1, k2, k3, P', L, rfl, rfl, hP', hL, hnd, hl1, hl3⟩ := for_invN (p := .nm 2) (body := (sSeq (sSet 3 (mN m__law_value (aCons (mV 0) aNil))) (sSeq (sIf (tBl (mOp2 fNotIn (mV 3) (mV 1))) (sSeq (sExpr (mBM fApp (mV 1) (aCons (mV 3) aNil))) sNil) sNil) sNil))) (all0 := (List.range' 0 3).map fun i : Nat => D.int (i : Int))
    (fun j G h => ∃ k2 k3 P L, G = [some (.loc 0), some (.loc (tl.length + 1)), k2, k3] ∧ h = P :: (tl ++ [.lst ((L : List Val).map vD)]) ∧ IsP cs P ∧ (∀ v ∈ L, VOk v) ∧ L.Nodup ∧ (1 ≤ j → 1 ≤ L.length) ∧ L.length ≤ j)
    (fun i : Nat => D.int (i : Int)) 3 0 3 rfl
    (by
      rintro i hi G h ⟨k2, k3, P, L, rfl, rfl, hP, hL, hnd, hl1, hl3⟩
      obtain ⟨v, P1, ev, hP1, hv⟩ := value_ok hc hP (tl ++ [.lst (L.map vD)])
      have en := notin_hvO (h := P1 :: (tl ++ [.lst (L.map vD)])) (n := tl.length + 1) (os := L.map some) (by rw [List.map_map]; exact hget _ _) (some v)
      have em : decide (some v ∈ L.map some) = decide (v ∈ L) := by simp
      rw [em] at en
      have en : fNotIn (vD v) (.loc (tl.length + 1)) (P1 :: (tl ++ [.lst (L.map vD)])) = .ok (.bl (!decide (v ∈ L))) (P1 :: (tl ++ [.lst (L.map vD)])) := en
      have lb : L.length < big := by rw [big_eq]; omega
      by_cases q : v ∈ L
      · refine ⟨_, [some (.loc 0), some (.loc (tl.length + 1)), some (.int i), some (vD v)], P1 :: (tl ++ [.lst (L.map vD)]), rfl, ?_, _, _, P1, L, rfl, rfl, hP1, hL, hnd, fun _ => List.length_pos_of_mem q, by omega⟩
        simp [ev, en, q]
      · refine ⟨_, [some (.loc 0), some (.loc (tl.length + 1)), some (.int i), some (vD v)], P1 :: (tl ++ [.lst ((L ++ [v]).map vD)]), rfl, ?_, _, _, P1, L ++ [v], rfl, rfl, hP1, ?_, ?_, fun _ => by simp, by simp; omega⟩
        · simp [ev, en, q, hget, hset, lb]
        · intro u hu
          rcases List.mem_append.mp hu with hu | hu
          · exact hL u hu
          · rw [List.mem_singleton.mp hu]
            exact hv
        · rw [List.nodup_append]
          refine ⟨hnd, by simp, ?_⟩
          intro a ha b hb
          rw [List.mem_singleton.mp hb]
          intro z
          subst z
          exact q ha)
    [some (.loc 0), some (.loc (tl.length + 1)), none, none] (P :: (tl ++ [.lst []])) ⟨none, none, P, [], rfl, rfl, hP, by simp, by simp, by omega, by simp⟩
  refine ⟨L, P', ?_, hP', hL, hnd, hl1 (by omega), hl3⟩
  have er : rangeD 0 3 = (List.range' 0 3).map fun i : Nat => D.int (i : Int) := rangeD_eq 3
  have c1 : okR (3 : Int) := ⟨by decide, by decide⟩
  have b0 : (0 : Nat) ≤ big := by decide
  have fin := finL_hand hP' tl (L.map vD) (under_vs _ L) (P := P)
  simp [m__law_pool, mDefL, b__law_pool, c1, er, b0, e1, fin]
end My
namespace My
open PySem AB L2
@[simp] theorem is_integer_ok {h : AH} (i : Int) : m_is_integer [.int i] h = .ok (.bl true) h := by
  simp [m_is_integer, mDef, b_is_integer, Ty.sub]
@[simp] theorem is_between_ok {h : AH} (i a b : Int) : m_is_between [.int i, .int a, .int b] h = .ok (.bl (decide (a ≤ i) && decide (i ≤ b))) h := by
  by_cases c : a ≤ i
  · simp [m_is_between, mDef, b_is_between, c]
  · simp [m_is_between, mDef, b_is_between, c]
theorem is_value_ok {h : AH} {v : Val} (w : VOk v) : m_is_value [vD v] h = .ok (.bl true) h := by
  have h1 : ∀ (all0 : List D), compGo (.nm 1) tYesM (mN m_is_between (aCons (mV 1) (aCons (mC (.int 0)) (aCons (mC (.int 1000000000000)) aNil)))) none all0 [some (vD v), none] (v.map .int) h = .ok (v.map fun _ => .bl true) h :=
    fun all0 => comp_all _ _ _ fun k hk => ⟨[some (vD v), some (.int k)], rfl, by simp [w.bd k hk]⟩
  have l1 : v.length ≤ big := by rw [big_eq]; have := w.len; omega
  have l2 : ¬ (32 : Int) < v.length := by have := w.len; omega
  have e : vD v = .tup (v.map .int) := rfl
  rw [e] at h1 ⊢
  simp [m_is_value, mDef, b_is_value, wipeG, Ty.sub, l1, l2, h1]
noncomputable def HOkV : Option Val → Prop
  | none => True
  | some v => VOk v
theorem is_held_ok {h : AH} {o : Option Val} (w : HOkV o) : m_is_held [hvD o] h = .ok (.bl true) h := by
  cases o with
  | none => simp [m_is_held, mDef, b_is_held, hvD, fIsN]
  | some v =>
    have := is_value_ok (h := h) (v := v) w
    have e : hvD (some v) = .tup (v.map .int) := rfl
    have e2 : vD v = .tup (v.map .int) := rfl
    rw [e2] at this
    rw [e]
    simp [m_is_held, mDef, b_is_held, fIsN, this]
theorem is_state_ok {h : AH} {st : List (Option Val)} (h1 : 1 ≤ st.length) (h2 : st.length ≤ 64) (w : ∀ o ∈ st, HOkV o) : m_is_state [.tup (st.map hvD)] h = .ok (.bl true) h := by
  have hc : ∀ (all0 : List D), compGo (.nm 1) tYesM (mN m_is_held (aCons (mV 1) aNil)) none all0 [some (.tup (st.map hvD)), none] (st.map hvD) h = .ok (st.map fun _ => .bl true) h :=
    fun all0 => comp_all _ _ _ fun o ho => ⟨[some (.tup (st.map hvD)), some (hvD o)], rfl, by simp [is_held_ok (w o ho)]⟩
  have l1 : st.length ≤ big := by rw [big_eq]; omega
  have l2 : (1 : Int) ≤ st.length := by omega
  have l3 : (st.length : Int) ≤ 64 := by omega
  simp [m_is_state, mDef, b_is_state, wipeG, Ty.sub, l1, l2, l3, hc]
end My
namespace My
open PySem AB L2
theorem toP_tup {ds : List D} {ps : List PyData} (h : toPs ds = some ps) : toP (.tup ds) = some (.tuple ps) := by
  show (toPs ds).map PyData.tuple = _
  rw [h]
  rfl
theorem toPs_cons {d : D} {ds : List D} {p : PyData} {ps : List PyData} (h1 : toP d = some p) (h2 : toPs ds = some ps) : toPs (d :: ds) = some (p :: ps) := by
  show (match toP d, toPs ds with | some p, some ps => some (p :: ps) | _, _ => none) = _
  rw [h1, h2]
theorem okP_hvT {h : AH} (os : List (Option Val)) : okP h (.tup (os.map hvD)) = some (.tuple (os.map hvP)) := by
  unfold okP
  have e : toPh h (.tup (os.map hvD)) = some (.tuple (os.map hvP)) := toP_tup (toPs_hv os)
  rw [e]
  have := dep_hvs os
  have e3 : SeqAt.shaped (.tuple (os.map hvP)) = true := by
    simp [SeqAt.shaped, PyData.canLay0, PyData.depth, lay_hvs]
    omega
  simp [e3]
@[simp] theorem is_index_ok {h : AH} (i n : Int) : m_is_index [.int i, .int n] h = .ok (.bl (decide (0 ≤ i) && decide (i ≤ n - 1))) h := by
  simp [m_is_index, mDef, b_is_index]
end My
/-! rules of simp for objects and dicts -/
namespace AB
open PySem PySem.Spec PyProof.Rows L2
section
variable {G : Env} {h : AH} {m a b c : Me} {as : MeL} {n : Nat} {x y : D} {f C : Str} {cs : List Str} {tb : List (Str × Fn)}
@[simp] theorem v_mDSetd : mDSetd a b c G h = (a G h).bind fun d h1 => match d with
  | .loc n => match dctAt h1 n with
    | some _ => (b G h1).bind fun j h2 => (c G h2).bind fun z h3 => match h3[n]?, toKey j with
      | some (.dct kvs), some q => if kvs.length < big then (match valD kvs q with
        | some y => .ok y h3
        | none => .ok z (h3.set n (.dct (putKD kvs q z)))) else .stuck
      | _, _ => .stuck
    | none => .stuck
  | _ => .stuck := id rfl
end
end AB
namespace My
open PySem AB L2
theorem st_wk : ¬ (("writes" : Str) = "kept") := by decide +kernel
theorem st_kw : ¬ (("kept" : Str) = "writes") := by decide +kernel
theorem st_ak : ¬ (("watcher" : Str) = "kept") := by decide +kernel
theorem st_aw : ¬ (("watcher" : Str) = "writes") := by decide +kernel
noncomputable def diskF (k w : Nat) : List (Str × D) := [("kept", .loc k), ("writes", .loc w), ("watcher", .non)]
theorem lookup_ne {f g : Str} {d : D} {r : List (Str × D)} (h : ¬ f = g) : ((g, d) :: r).lookup f = r.lookup f := by
  rw [List.lookup_cons]
  have : (f == g) = false := by simpa using h
  rw [this]
theorem lookup_eq {f : Str} {d : D} {r : List (Str × D)} : ((f, d) :: r).lookup f = some d := by
  rw [List.lookup_cons]
  have : (f == f) = true := by simp
  rw [this]
@[simp] theorem df_kept {k w : Nat} : (diskF k w).lookup ("kept" : Str) = some (.loc k) := lookup_eq
@[simp] theorem df_writes {k w : Nat} : (diskF k w).lookup ("writes" : Str) = some (.loc w) := by
  unfold diskF
  rw [lookup_ne st_wk, lookup_eq]
@[simp] theorem df_watcher {k w : Nat} : (diskF k w).lookup ("watcher" : Str) = some .non := by
  unfold diskF
  rw [lookup_ne st_ak, lookup_ne st_aw, lookup_eq]
theorem df_none {k w : Nat} {m : Str} (h1 : ¬ m = "kept") (h2 : ¬ m = "writes") (h3 : ¬ m = "watcher") : (diskF k w).lookup m = none := by
  unfold diskF
  rw [lookup_ne h1, lookup_ne h2, lookup_ne h3]
  rfl
@[simp] theorem df_tell {k w : Nat} : (diskF k w).lookup ("tell" : Str) = none := df_none (by decide +kernel) (by decide +kernel) (by decide +kernel)
@[simp] theorem df_write {k w : Nat} : (diskF k w).lookup ("write" : Str) = none := df_none (by decide +kernel) (by decide +kernel) (by decide +kernel)
@[simp] theorem df_barrier {k w : Nat} : (diskF k w).lookup ("barrier" : Str) = none := df_none (by decide +kernel) (by decide +kernel) (by decide +kernel)
@[simp] theorem df_now {k w : Nat} : (diskF k w).lookup ("now" : Str) = none := df_none (by decide +kernel) (by decide +kernel) (by decide +kernel)
@[simp] theorem df_len {k w : Nat} : (diskF k w).length = 3 := rfl
@[simp] theorem df_putW {k w x : Nat} : putD "writes" (.loc x) (diskF k w) = diskF k x := by
  unfold diskF
  show (if ("kept" : Str) = "writes" then _ else (("kept" : Str), D.loc k) :: (if ("writes" : Str) = "writes" then (("writes" : Str), D.loc x) :: [(("watcher" : Str), D.non)] else _)) = _
  rw [if_neg st_kw, if_pos rfl]
end My
namespace My
open PySem hiding Tree
open AB L2
theorem ixN_nat {n s : Nat} (h : s < n) : ixN n (s : Int) = some s := by
  unfold ixN
  rw [if_pos (by omega), if_pos (by omega)]
  simp
theorem lt_of_get {α : Type} {l : List α} {n : Nat} {a : α} (e : l[n]? = some a) : n < l.length := (List.getElem?_eq_some_iff.mp e).1
theorem g_app (h l : AH) (i : Nat) : (h ++ l)[h.length + i]? = l[i]? := by
  rw [List.getElem?_append_right (by omega)]
  congr 1
  omega
theorem g_app0 (h l : AH) : (h ++ l)[h.length]? = l[0]? := g_app h l 0
theorem s_app (h l : AH) (i : Nat) (x : AO) : (h ++ l).set (h.length + i) x = h ++ l.set i x := by
  rw [List.set_append_right _ _ (by omega)]
  congr 2
  omega
theorem s_app0 (h l : AH) (x : AO) : (h ++ l).set h.length x = h ++ l.set 0 x := s_app h l 0 x
theorem set_mid (hh tl : AH) (x y : AO) : (hh ++ x :: tl).set hh.length y = hh ++ y :: tl := s_app0 hh (x :: tl) y
theorem get_mid (hh tl : AH) (x : AO) : (hh ++ x :: tl)[hh.length]? = some x := g_app0 hh (x :: tl)

end My
/-! steps of plans; what they do, plain -/
namespace My
open PySem AB L2
inductive Stp where
  | wr (s : Nat) (v : Val)
  | bar
  | beg
  | don
noncomputable def Stp.nm : Stp → Str
  | .wr _ _ => "write"
  | .bar => "barrier"
  | .beg => "begin"
  | .don => "done"
noncomputable def stD : Stp → D
  | .wr s v => .tup [.str "write", .int (s : Int), vD v]
  | .bar => .tup [.str "barrier"]
  | .beg => .tup [.str "begin"]
  | .don => .tup [.str "done"]
noncomputable def StpOk (n : Nat) : Stp → Prop
  | .wr s v => s < n ∧ VOk v
  | _ => True
noncomputable def Stp.lift : Stp → Int
  | .beg => 1
  | .don => -1
  | _ => 0
noncomputable def und (xs : List Stp) : Int := xs.foldl (fun u x => u + x.lift) 0
theorem und_snoc (xs : List Stp) (x : Stp) : und (xs ++ [x]) = und xs + x.lift := by
  unfold und
  rw [List.foldl_append]
  rfl
noncomputable def PreOk (xs : List Stp) : Prop := ∀ k, 0 ≤ und (xs.take k)
theorem pre_snoc {xs : List Stp} {x : Stp} (h : PreOk xs) (h2 : 0 ≤ und (xs ++ [x])) : PreOk (xs ++ [x]) := by
  intro k
  by_cases q : k ≤ xs.length
  · rw [List.take_append_of_le_length q]
    exact h k
  · rw [List.take_of_length_le (by simp; omega)]
    exact h2
/-! words -/
theorem okP_str {h : AH} {x : Str} (hx : SeqAt.shaped (.str x) = true) : okP h (.str x) = some (.str x) := by
  unfold okP
  have e : toPh h (.str x) = some (.str x) := rfl
  rw [e]
  simp [hx]
theorem eq_str {h : AH} {x y : Str} (hx : SeqAt.shaped (.str x) = true) (hy : SeqAt.shaped (.str y) = true) : fEq (.str x) (.str y) h = .ok (.bl (x == y)) h := by
  unfold fEq
  rw [okP_str hx, okP_str hy]
  simp [PyData.eqv]
theorem nm_wr (s : Nat) (v : Val) : (Stp.wr s v).nm = Stp.nm (.wr 0 []) := rfl
theorem sh_nm (x : Stp) : SeqAt.shaped (.str x.nm) = true := by
  cases x with
  | wr s v => rw [nm_wr]; decide +kernel
  | bar => decide +kernel
  | beg => decide +kernel
  | don => decide +kernel
theorem eq_nm {h : AH} (x y : Stp) : fEq (.str x.nm) (.str y.nm) h = .ok (.bl (x.nm == y.nm)) h := eq_str (sh_nm x) (sh_nm y)
theorem stD_hd (x : Stp) : ∃ r, stD x = .tup (.str x.nm :: r) := by cases x <;> exact ⟨_, rfl⟩
theorem stD_0 {h : AH} (x : Stp) : fIx (stD x) (.int 0) h = .ok (.str x.nm) h := by
  obtain ⟨r, e⟩ := stD_hd x
  rw [e]
  simp
noncomputable def isW : Stp → Bool
  | .wr _ _ => true
  | _ => false
noncomputable def isBar : Stp → Bool
  | .bar => true
  | _ => false
noncomputable def isBeg : Stp → Bool
  | .beg => true
  | _ => false
noncomputable def isDon : Stp → Bool
  | .don => true
  | _ => false
theorem is_w {h : AH} (x : Stp) : fEq (.str x.nm) (.str "write") h = .ok (.bl (isW x)) h := by
  have := eq_nm (h := h) x (.wr 0 [])
  have e : (x.nm == Stp.nm (.wr 0 [])) = isW x := by
    cases x with
    | wr s v => rw [nm_wr]; show _ = isW (.wr 0 []); decide +kernel
    | bar => decide +kernel
    | beg => decide +kernel
    | don => decide +kernel
  rw [e] at this
  exact this
theorem is_bar {h : AH} (x : Stp) : fEq (.str x.nm) (.str "barrier") h = .ok (.bl (isBar x)) h := by
  have := eq_nm (h := h) x .bar
  have e : (x.nm == Stp.nm .bar) = isBar x := by
    cases x with
    | wr s v => rw [nm_wr]; show _ = isBar (.wr 0 []); decide +kernel
    | bar => decide +kernel
    | beg => decide +kernel
    | don => decide +kernel
  rw [e] at this
  exact this
theorem is_beg {h : AH} (x : Stp) : fEq (.str x.nm) (.str "begin") h = .ok (.bl (isBeg x)) h := by
  have := eq_nm (h := h) x .beg
  have e : (x.nm == Stp.nm .beg) = isBeg x := by
    cases x with
    | wr s v => rw [nm_wr]; show _ = isBeg (.wr 0 []); decide +kernel
    | bar => decide +kernel
    | beg => decide +kernel
    | don => decide +kernel
  rw [e] at this
  exact this
theorem is_don {h : AH} (x : Stp) : fEq (.str x.nm) (.str "done") h = .ok (.bl (isDon x)) h := by
  have := eq_nm (h := h) x .don
  have e : (x.nm == Stp.nm .don) = isDon x := by
    cases x with
    | wr s v => rw [nm_wr]; show _ = isDon (.wr 0 []); decide +kernel
    | bar => decide +kernel
    | beg => decide +kernel
    | don => decide +kernel
  rw [e] at this
  exact this
end My
/-! drawn steps; the law's own doing of them -/
namespace My
open PySem AB L2
theorem under_stD (n : Nat) (x : Stp) : (stD x).under n = true := by
  cases x with
  | wr s v => simp [stD, D.under, underL, vD, under_ints]
  | bar => simp [stD, D.under, underL]
  | beg => simp [stD, D.under, underL]
  | don => simp [stD, D.under, underL]
theorem under_stDs (n : Nat) (xs : List Stp) : underL n (xs.map stD) = true := by
  induction xs with
  | nil => simp [underL]
  | cons x xs ih => simp [underL, ih, under_stD]
section
variable {cs : List Int} {P : AO} {tl : AH} {n many : Nat} {L : List Val}
noncomputable def stA : Ms := sSet 7 (mN m__law_draw (aCons (mV 0) (aCons (mC (.int 8)) aNil)))
noncomputable def stW : Ms := sExpr (mBM fApp (mV 4) (aCons (mN fTup (aCons (mC (.str "write")) (aCons (mN m__law_draw (aCons (mV 0) (aCons (mV 2) aNil))) (aCons (mN m__law_any (aCons (mV 0) (aCons (mV 1) aNil))) aNil)))) aNil))
noncomputable def stO (x : Str) : Ms := sExpr (mBM fApp (mV 4) (aCons (mN fTup (aCons (mC (.str x)) aNil)) aNil))
noncomputable def stB : Ms := sSeq stA (sSeq (sIf (tBl (mOp2 cLt (mV 7) (mC (.int 4)))) (sSeq stW sNil) (sSeq (sIf (tBl (mOp2 cLt (mV 7) (mC (.int 6)))) (sSeq (stO "barrier") sNil) (sSeq (sIf (tOrM (tBl (mOp2 fEq (mV 7) (mC (.int 6)))) (tBl (mOp2 fEq (mV 5) (mC (.int 0))))) (sSeq (stO "begin") (sSeq (sSet 5 (mOp2 fAdd (mV 5) (mC (.int 1)))) sNil)) (sSeq (stO "done") (sSeq (sSet 5 (mOp2 fSub (mV 5) (mC (.int 1)))) sNil))) sNil)) sNil)) sNil)
theorem stO_ok {w : Str} {x : Stp} (e : stD x = .tup [.str w]) {xs : List Stp} (hl : xs.length ≤ 1000) {g1 g2 g3 g5 g6 g7 : Option D} (P : AO) :
    stO w [some (.loc 0), g1, g2, g3, some (.loc (tl.length + 1)), g5, g6, g7] (P :: (tl ++ [.lst (xs.map stD)])) = .next [some (.loc 0), g1, g2, g3, some (.loc (tl.length + 1)), g5, g6, g7] (P :: (tl ++ [.lst ((xs ++ [x]).map stD)])) := by
  have hget : ∀ (o : AO), (P :: (tl ++ [o]))[tl.length + 1]? = some o := fun o => by simp
  have hset : ∀ (o o' : AO), (P :: (tl ++ [o])).set (tl.length + 1) o' = P :: (tl ++ [o']) := fun o o' => by simp
  have lb : (xs.map stD).length < big := by rw [List.length_map, big_eq]; omega
  have b1 : (1 : Nat) ≤ big := by decide
  have em : (xs ++ [x]).map stD = xs.map stD ++ [.tup [.str w]] := by rw [List.map_append, ← e]; rfl
  unfold stO
  simp only [v_sExpr, v_mBM, v_mV, List.getElem?_cons_succ, List.getElem?_cons_zero, Res.bind_ok, v_vLo, hget, v_aCons, v_aNil, v_mN, v_mC, v_fTup, List.length_cons, List.length_nil, Nat.zero_add, b1, if_true, v_app, lb, hset, Res.toS_ok, em]
theorem stW_ok (hc : ∀ c ∈ cs, 0 ≤ c) (hP : IsP cs P) (n1 : 1 ≤ n) (n2 : n ≤ 64) (hL : ∀ v ∈ L, VOk v) (l1 : 1 ≤ L.length) (l2 : L.length ≤ 3) {xs : List Stp} (hl : xs.length ≤ 1000) {g3 g5 g6 g7 : Option D} :
    ∃ x P', StpOk n x ∧ isW x = true ∧ stW [some (.loc 0), some (.lst (L.map vD)), some (.int n), g3, some (.loc (tl.length + 1)), g5, g6, g7] (P :: (tl ++ [.lst (xs.map stD)])) = .next [some (.loc 0), some (.lst (L.map vD)), some (.int n), g3, some (.loc (tl.length + 1)), g5, g6, g7] (P' :: (tl ++ [.lst ((xs ++ [x]).map stD)])) ∧ IsP cs P' := by
  obtain ⟨s, P1, e1, hP1, s0, s1⟩ := draw_ok hc hP (many := n) (by omega) (by omega) (tl ++ [.lst (xs.map stD)])
  obtain ⟨x, P2, e2, hP2, hx⟩ := any_ok hc hP1 (L.map vD) (by rw [List.length_map]; exact l1) (by rw [List.length_map]; omega) (tl ++ [.lst (xs.map stD)])
  obtain ⟨v, hv, rfl⟩ := List.mem_map.mp hx
  obtain ⟨s, rfl⟩ : ∃ k : Nat, s = (k : Int) := ⟨s.toNat, by omega⟩
  refine ⟨.wr s v, P2, ⟨by omega, hL v hv⟩, rfl, ?_, hP2⟩
  have hget : ∀ (P : AO) (o : AO), (P :: (tl ++ [o]))[tl.length + 1]? = some o := fun P o => by simp
  have hset : ∀ (P o o' : AO), (P :: (tl ++ [o])).set (tl.length + 1) o' = P :: (tl ++ [o']) := fun P o o' => by simp
  have lb : (xs.map stD).length < big := by rw [List.length_map, big_eq]; omega
  have b3 : (3 : Nat) ≤ big := by decide
  have em : (xs ++ [Stp.wr s v]).map stD = xs.map stD ++ [.tup [.str "write", .int (s : Int), vD v]] := by rw [List.map_append]; rfl
  unfold stW
  simp only [v_sExpr, v_mBM, v_mV, List.getElem?_cons_succ, List.getElem?_cons_zero, Res.bind_ok, v_vLo, hget, v_aCons, v_aNil, v_mN, v_mC, e1, e2, v_fTup, List.length_cons, List.length_nil, Nat.zero_add, Nat.reduceAdd, b3, if_true, v_app, lb, hset, Res.toS_ok, em]
theorem steps_ok (hc : ∀ c ∈ cs, 0 ≤ c) (hP : IsP cs P) (tl : AH) (n1 : 1 ≤ n) (n2 : n ≤ 64) (hL : ∀ v ∈ L, VOk v) (l1 : 1 ≤ L.length) (l2 : L.length ≤ 3) (hm : many ≤ 200) :
    ∃ (xs : List Stp) (P' : AO), m__law_steps [.loc 0, .lst (L.map vD), .int n, .int many] (P :: tl) = .ok (.tup (xs.map stD)) (P' :: tl) ∧ IsP cs P' ∧ xs.length = many ∧ (∀ x ∈ xs, StpOk n x) ∧ PreOk xs := by
  obtain ⟨G', h', e1, g6, g7, P', xs, rfl, rfl, hP', hl, hx, hp, hu⟩ := for_invN (p := .nm 6) (body := stB) (all0 := (List.range' 0 many).map fun i : Nat => D.int (i : Int))
    (fun j G h => ∃ g6 g7 P xs, G = [some (.loc 0), some (.lst (L.map vD)), some (.int n), some (.int many), some (.loc (tl.length + 1)), some (.int (und xs)), g6, g7] ∧ h = P :: (tl ++ [.lst (xs.map stD)]) ∧ IsP cs P ∧ xs.length = j ∧ (∀ x ∈ xs, StpOk n x) ∧ PreOk xs ∧ 0 ≤ und xs)
    (fun i : Nat => D.int (i : Int)) many 0 many (by omega)
    (by
      rintro i hi G h ⟨g6, g7, P, xs, rfl, rfl, hP, hl, hx, hp, hu⟩
      obtain ⟨kd, P1, e0, hP1, k0, k1⟩ := draw_ok hc hP (many := 8) (by omega) (by omega) (tl ++ [.lst (xs.map stD)])
      have c0 : stA [some (.loc 0), some (.lst (L.map vD)), some (.int n), some (.int many), some (.loc (tl.length + 1)), some (.int (und xs)), some (.int (i : Int)), g7] (P :: (tl ++ [.lst (xs.map stD)])) =
          .next [some (.loc 0), some (.lst (L.map vD)), some (.int n), some (.int many), some (.loc (tl.length + 1)), some (.int (und xs)), some (.int (i : Int)), some (.int kd)] (P1 :: (tl ++ [.lst (xs.map stD)])) := by
        unfold stA
        simp only [v_sSet, v_mN, v_aCons, v_aNil, v_mV, v_mC, List.getElem?_cons_succ, List.getElem?_cons_zero, Res.bind_ok, e0, Res.toS_ok, List.set_cons_succ, List.set_cons_zero]
      have ext : ∀ x : Stp, StpOk n x → ∀ y ∈ xs ++ [x], StpOk n y := fun x h y hy => by
        rcases List.mem_append.mp hy with hy | hy
        · exact hx y hy
        · rw [List.mem_singleton.mp hy]; exact h
      by_cases q4 : kd < 4
      · obtain ⟨x, P2, hxo, hxw, c1, hP2⟩ := stW_ok (tl := tl) hc hP1 n1 n2 hL l1 l2 (xs := xs) (by omega) (g3 := some (.int many)) (g5 := some (.int (und xs))) (g6 := some (.int (i : Int))) (g7 := some (.int kd))
        have eu : und (xs ++ [x]) = und xs := by
          rw [und_snoc]
          cases x with
          | wr s v => simp [Stp.lift]
          | bar => simp [Stp.lift]
          | beg => cases hxw
          | don => cases hxw
        refine ⟨[some (.loc 0), some (.lst (L.map vD)), some (.int n), some (.int many), some (.loc (tl.length + 1)), some (.int (und xs)), some (.int (i : Int)), g7], [some (.loc 0), some (.lst (L.map vD)), some (.int n), some (.int many), some (.loc (tl.length + 1)), some (.int (und xs)), some (.int (i : Int)), some (.int kd)], P2 :: (tl ++ [.lst ((xs ++ [x]).map stD)]), rfl, ?_, some (.int (i : Int)), some (.int kd), P2, xs ++ [x], by rw [eu], rfl, hP2, by simp [hl], ext x hxo, pre_snoc hp (by rw [eu]; exact hu), by rw [eu]; exact hu⟩
        unfold stB
        simp only [v_sSeq, c0, SR.andThen_next, v_sIf, v_tBl, v_mOp2, v_mV, v_mC, List.getElem?_cons_succ, List.getElem?_cons_zero, Res.bind_ok, v_cLt, q4, decide_true, Res.toS_ok, if_true, c1, v_sNil]
      · by_cases q6 : kd < 6
        · have c1 := stO_ok (tl := tl) (w := "barrier") (x := .bar) rfl (xs := xs) (by omega) (g1 := some (.lst (L.map vD))) (g2 := some (.int n)) (g3 := some (.int many)) (g5 := some (.int (und xs))) (g6 := some (.int (i : Int))) (g7 := some (.int kd)) P1
          have eu : und (xs ++ [.bar]) = und xs := by rw [und_snoc]; simp [Stp.lift]
          refine ⟨[some (.loc 0), some (.lst (L.map vD)), some (.int n), some (.int many), some (.loc (tl.length + 1)), some (.int (und xs)), some (.int (i : Int)), g7], [some (.loc 0), some (.lst (L.map vD)), some (.int n), some (.int many), some (.loc (tl.length + 1)), some (.int (und xs)), some (.int (i : Int)), some (.int kd)], P1 :: (tl ++ [.lst ((xs ++ [Stp.bar]).map stD)]), rfl, ?_, some (.int (i : Int)), some (.int kd), P1, xs ++ [Stp.bar], by rw [eu], rfl, hP1, by simp [hl], ext .bar trivial, pre_snoc hp (by rw [eu]; exact hu), by rw [eu]; exact hu⟩
          unfold stB
          simp only [v_sSeq, c0, SR.andThen_next, v_sIf, v_tBl, v_mOp2, v_mV, v_mC, List.getElem?_cons_succ, List.getElem?_cons_zero, Res.bind_ok, v_cLt, q4, q6, decide_true, decide_false, Bool.false_eq_true, if_false, Res.toS_ok, if_true, c1, v_sNil]
        · have cO : tOrM (tBl (mOp2 fEq (mV 7) (mC (.int 6)))) (tBl (mOp2 fEq (mV 5) (mC (.int 0)))) [some (.loc 0), some (.lst (L.map vD)), some (.int n), some (.int many), some (.loc (tl.length + 1)), some (.int (und xs)), some (.int (i : Int)), some (.int kd)] (P1 :: (tl ++ [.lst (xs.map stD)])) = .ok (decide (kd = 6) || decide (und xs = 0)) (P1 :: (tl ++ [.lst (xs.map stD)])) := by
            by_cases z : kd = 6
            · simp only [v_tOr, v_tBl, v_mOp2, v_mV, v_mC, List.getElem?_cons_succ, List.getElem?_cons_zero, Res.bind_ok, v_eq, z, decide_true, if_true, Bool.true_or]
            · simp only [v_tOr, v_tBl, v_mOp2, v_mV, v_mC, List.getElem?_cons_succ, List.getElem?_cons_zero, Res.bind_ok, v_eq, z, decide_false, Bool.false_eq_true, if_false, Bool.false_or]
          by_cases qO : (decide (kd = 6) || decide (und xs = 0)) = true
          · have c1 := stO_ok (tl := tl) (w := "begin") (x := .beg) rfl (xs := xs) (by omega) (g1 := some (.lst (L.map vD))) (g2 := some (.int n)) (g3 := some (.int many)) (g5 := some (.int (und xs))) (g6 := some (.int (i : Int))) (g7 := some (.int kd)) P1
            have eu : und (xs ++ [.beg]) = und xs + 1 := by rw [und_snoc]; simp [Stp.lift]
            refine ⟨[some (.loc 0), some (.lst (L.map vD)), some (.int n), some (.int many), some (.loc (tl.length + 1)), some (.int (und xs)), some (.int (i : Int)), g7], [some (.loc 0), some (.lst (L.map vD)), some (.int n), some (.int many), some (.loc (tl.length + 1)), some (.int (und xs + 1)), some (.int (i : Int)), some (.int kd)], P1 :: (tl ++ [.lst ((xs ++ [Stp.beg]).map stD)]), rfl, ?_, some (.int (i : Int)), some (.int kd), P1, xs ++ [Stp.beg], by rw [eu], rfl, hP1, by simp [hl], ext .beg trivial, pre_snoc hp (by rw [eu]; omega), by rw [eu]; omega⟩
            unfold stB
            simp only [v_sSeq, c0, SR.andThen_next, v_sIf, cO, qO, v_tBl, v_mOp2, v_mV, v_mC, List.getElem?_cons_succ, List.getElem?_cons_zero, Res.bind_ok, v_cLt, q4, q6, decide_true, decide_false, Bool.false_eq_true, if_false, Res.toS_ok, if_true, c1, v_sSet, v_add, List.set_cons_succ, List.set_cons_zero, v_sNil]
          · have qf : (decide (kd = 6) || decide (und xs = 0)) = false := by simpa using qO
            have c1 := stO_ok (tl := tl) (w := "done") (x := .don) rfl (xs := xs) (by omega) (g1 := some (.lst (L.map vD))) (g2 := some (.int n)) (g3 := some (.int many)) (g5 := some (.int (und xs))) (g6 := some (.int (i : Int))) (g7 := some (.int kd)) P1
            have eu : und (xs ++ [.don]) = und xs - 1 := by rw [und_snoc]; simp [Stp.lift]; omega
            have hu1 : 0 ≤ und xs - 1 := by
              simp at qf
              omega
            refine ⟨[some (.loc 0), some (.lst (L.map vD)), some (.int n), some (.int many), some (.loc (tl.length + 1)), some (.int (und xs)), some (.int (i : Int)), g7], [some (.loc 0), some (.lst (L.map vD)), some (.int n), some (.int many), some (.loc (tl.length + 1)), some (.int (und xs - 1)), some (.int (i : Int)), some (.int kd)], P1 :: (tl ++ [.lst ((xs ++ [Stp.don]).map stD)]), rfl, ?_, some (.int (i : Int)), some (.int kd), P1, xs ++ [Stp.don], by rw [eu], rfl, hP1, by simp [hl], ext .don trivial, pre_snoc hp (by rw [eu]; omega), by rw [eu]; omega⟩
            unfold stB
            simp only [v_sSeq, c0, SR.andThen_next, v_sIf, cO, qf, v_tBl, v_mOp2, v_mV, v_mC, List.getElem?_cons_succ, List.getElem?_cons_zero, Res.bind_ok, v_cLt, q4, q6, decide_true, decide_false, Bool.false_eq_true, if_false, Res.toS_ok, if_true, c1, v_sSet, v_sub, List.set_cons_succ, List.set_cons_zero, v_sNil])
    [some (.loc 0), some (.lst (L.map vD)), some (.int n), some (.int many), some (.loc (tl.length + 1)), some (.int 0), none, none] (P :: (tl ++ [.lst []])) ⟨none, none, P, [], rfl, rfl, hP, rfl, by simp, fun k => by simp [und], by simp [und]⟩
  refine ⟨xs, P', ?_, hP', hl, hx, hp⟩
  have er : rangeD 0 many = (List.range' 0 many).map fun i : Nat => D.int (i : Int) := by rw [← List.range_eq_range']; exact rangeD_eq many
  have c1 : okR (many : Int) := ⟨by omega, by omega⟩
  have b0 : (0 : Nat) ≤ big := by decide
  have ei : ∀ h, (iRange1 (aCons (mV 3) aNil)) [some (.loc 0), some (.lst (L.map vD)), some (.int n), some (.int many), some (.loc (tl.length + 1)), some (.int 0), none, none] h = .ok ((List.range' 0 many).map fun i : Nat => D.int (i : Int), none) h := fun h => by
    rw [v_range1]
    simp only [v_aCons, v_aNil, v_mV, List.getElem?_cons_succ, List.getElem?_cons_zero, Res.bind_ok, c1, if_true]
    show Res.ok (rangeD 0 (many : Int).toNat, none) _ = _
    rw [Int.toNat_natCast, er]
  have fin := finD_hand hP' tl [.lst (xs.map stD)] (.tup (xs.map stD)) (by simp only [D.under]; exact under_stDs _ _) (P := P)
  have hget : (P' :: (tl ++ [AO.lst (xs.map stD)]))[tl.length + 1]? = some (.lst (xs.map stD)) := by simp
  have eb : b__law_steps [some (.loc 0), some (.lst (L.map vD)), some (.int n), some (.int many), none, none, none, none] (P :: tl) = .ret (.tup (xs.map stD)) (P' :: (tl ++ [.lst (xs.map stD)])) := by
    have eq : b__law_steps = sSeq (sSet 4 (mNew (lLst aNil))) (sSeq (sSet 5 (mC (.int 0))) (sSeq (sFor (.nm 6) (iRange1 (aCons (mV 3) aNil)) stB) (sSeq (sRet (mN fTuple (aCons (mV 4) aNil))) sNil))) := rfl
    rw [eq]
    have ec : (P :: tl) ++ [AO.lst []] = P :: (tl ++ [.lst []]) := rfl
    simp only [v_sSeq, v_sSet, v_mNew, v_lLst, v_aNil, Res.bind_ok, List.length_nil, b0, if_true, List.length_cons, ec, v_mC, Res.toS_ok, List.set_cons_succ, List.set_cons_zero, SR.andThen_next, v_sFor, ei, e1, v_sRet, v_mN, v_aCons, v_mV, List.getElem?_cons_succ, v_tuple, v_vSo, SR.andThen_ret]
    simp
  simp [m__law_steps, mDef, eb, fin]
end
end My
/-! plans -/
namespace My
open PySem AB L2
@[simp] theorem v_tyS {h : AH} {x : Str} : tyD h (.str x) = some .str := rfl
theorem q_bb {h : AH} : fEq (.str "barrier") (.str "barrier") h = .ok (.bl true) h := is_bar .bar
theorem q_wb {h : AH} : fEq (.str "write") (.str "barrier") h = .ok (.bl false) h := is_bar (.wr 0 [])
theorem q_gb {h : AH} : fEq (.str "begin") (.str "barrier") h = .ok (.bl false) h := is_bar .beg
theorem q_db {h : AH} : fEq (.str "done") (.str "barrier") h = .ok (.bl false) h := is_bar .don
theorem q_ww {h : AH} : fEq (.str "write") (.str "write") h = .ok (.bl true) h := is_w (.wr 0 [])
theorem q_gw {h : AH} : fEq (.str "begin") (.str "write") h = .ok (.bl false) h := is_w .beg
theorem q_dw {h : AH} : fEq (.str "done") (.str "write") h = .ok (.bl false) h := is_w .don
theorem is_disk_step_ok {h : AH} {n : Nat} {x : Stp} (w : StpOk n x) : m_is_disk_step [stD x, .int n] h = .ok (.bl (isW x || isBar x)) h := by
  cases x with
  | bar => simp [m_is_disk_step, mDef, b_is_disk_step, stD, Ty.sub, q_bb, isW, isBar]
  | beg => simp [m_is_disk_step, mDef, b_is_disk_step, stD, Ty.sub, q_gb, q_gw, isW, isBar]
  | don => simp [m_is_disk_step, mDef, b_is_disk_step, stD, Ty.sub, q_db, q_dw, isW, isBar]
  | wr s v =>
    obtain ⟨h1, h2⟩ := w
    have e1 : (s : Int) ≤ (n : Int) - 1 := by omega
    simp [m_is_disk_step, mDef, b_is_disk_step, stD, Ty.sub, q_wb, q_ww, e1, is_value_ok h2, isW]
theorem in_deeds {h : AH} (x : Stp) : fIn (.str x.nm) (.tup [.str "begin", .str "done"]) h = .ok (.bl (isBeg x || isDon x)) h := by
  have e1 : okP h (.tup [.str "begin", .str "done"]) = some (.tuple [.str "begin", .str "done"]) := by
    unfold okP
    have e : toPh h (.tup [.str "begin", .str "done"]) = some (.tuple [.str "begin", .str "done"]) := rfl
    rw [e]
    have : SeqAt.shaped (.tuple [.str "begin", .str "done"]) = true := by decide +kernel
    simp [this]
  unfold fIn inD
  rw [okP_str (sh_nm x), e1]
  have e2 : ([PyData.str "begin", PyData.str "done"].any fun z => PyData.eqv z (.str x.nm)) = (isBeg x || isDon x) := by
    cases x with
    | wr s v => rw [nm_wr]; show _ = (isBeg (.wr 0 []) || isDon (.wr 0 [])); decide +kernel
    | bar => decide +kernel
    | beg => decide +kernel
    | don => decide +kernel
  simp only [e2]
theorem is_deed_ok {h : AH} {x : Stp} (hx : (isBeg x || isDon x) = true) : m_is_deed_step [stD x] h = .ok (.bl true) h := by
  have e := in_deeds (h := h) x
  have b2 : (2 : Nat) ≤ big := by decide
  cases x with
  | bar => cases hx
  | wr s v => cases hx
  | beg =>
    have e : fIn (.str "begin") (.tup [.str "begin", .str "done"]) h = .ok (.bl true) h := e
    simp [m_is_deed_step, mDef, b_is_deed_step, stD, Ty.sub, e, b2]
  | don =>
    have e : fIn (.str "done") (.tup [.str "begin", .str "done"]) h = .ok (.bl true) h := e
    simp [m_is_deed_step, mDef, b_is_deed_step, stD, Ty.sub, e, b2]
/-! the object -/
theorem st_ts : ¬ (("kept_steps" : Str) = "kept_state") := by decide +kernel
theorem st_st : ¬ (("kept_state" : Str) = "kept_steps") := by decide +kernel
noncomputable def planF (K : List (Option Val)) (xs : List Stp) : List (Str × D) := [("kept_state", .tup (K.map hvD)), ("kept_steps", .tup (xs.map stD))]
@[simp] theorem pf_state {K : List (Option Val)} {xs : List Stp} : (planF K xs).lookup ("kept_state" : Str) = some (.tup (K.map hvD)) := lookup_eq
@[simp] theorem pf_steps {K : List (Option Val)} {xs : List Stp} : (planF K xs).lookup ("kept_steps" : Str) = some (.tup (xs.map stD)) := by
  unfold planF
  rw [lookup_ne st_ts, lookup_eq]
theorem pf_new (K : List (Option Val)) (xs : List Stp) : putD "kept_steps" (.tup (xs.map stD)) (putD "kept_state" (.tup (K.map hvD)) []) = planF K xs := by
  have e1 : putD "kept_state" (.tup (K.map hvD)) [] = [(("kept_state" : Str), D.tup (K.map hvD))] := rfl
  rw [e1]
  show (if ("kept_state" : Str) = "kept_steps" then _ else (("kept_state" : Str), D.tup (K.map hvD)) :: [(("kept_steps" : Str), D.tup (xs.map stD))]) = _
  rw [if_neg st_st]
  rfl
theorem lookup_one {β : Type} {f : Str} {d : β} {r : List (Str × β)} : List.lookup f ((f, d) :: r) = some d := by
  rw [List.lookup_cons]
  have : (f == f) = true := by simp
  rw [this]
noncomputable def encS (xs : List Stp) (i : Nat) : D := .tup [.int (i : Int), stD (xs.getD i .bar)]
theorem enum_S (xs : List Stp) : enumD (xs.map stD) = (List.range' 0 xs.length).map (encS xs) := by
  rw [enumD_eq, List.length_map, ← List.range_eq_range']
  refine List.map_congr_left fun i hi => ?_
  have hi := List.mem_range.mp hi
  show D.tup [D.int (i : Int), (xs.map stD).getD i D.non] = _
  unfold encS
  rw [List.getD_eq_getElem?_getD, List.getD_eq_getElem?_getD, List.getElem?_map, List.getElem?_eq_getElem hi]
  rfl
theorem und_take {xs : List Stp} {i : Nat} (hi : i < xs.length) : und (xs.take (i + 1)) = und (xs.take i) + (xs.getD i .bar).lift := by
  have e : xs.take (i + 1) = xs.take i ++ [xs[i]] := by
    rw [List.take_succ, List.getElem?_eq_getElem hi]
    rfl
  rw [e, und_snoc, List.getD_eq_getElem?_getD, List.getElem?_eq_getElem hi]
  rfl
theorem lift_eq (x : Stp) : (if isBeg x = true then (1 : Int) else 0) - (if isDon x = true then (1 : Int) else 0) = x.lift := by cases x <;> rfl
theorem in_hvT {h : AH} (o : Option Val) (L : List (Option Val)) : fIn (hvD o) (.tup (L.map hvD)) h = .ok (.bl (decide (o ∈ L))) h := by
  unfold fIn inD
  rw [okP_hv, okP_hvT]
  simp only [any_hv]
noncomputable def pI1 : Ms := sIf (tOrM (tNotM (tOf (mN m_is_state (aCons (mV 1) aNil)))) (tBl (mOp2 fIn (mC .non) (mV 1)))) (sSeq sNever sNil) sNil
noncomputable def pI2 : Ms := sIf (tOrM (tNotM (tOf (mIsi .tup (mV 2)))) (tBl (mOp2 cGt (mN fLen (aCons (mV 2) aNil)) (mC (.int 200))))) (sSeq sNever sNil) sNil
noncomputable def pL1 : Ms := sIf (tAndM (tNotM (tOf (mN m_is_disk_step (aCons (mV 5) (aCons (mN fLen (aCons (mV 1) aNil)) aNil))))) (tNotM (tOf (mN m_is_deed_step (aCons (mV 5) aNil))))) (sSeq sNever sNil) sNil
noncomputable def pL2 : Ms := sAug (fun i j => i + j) 3 (mOp2 fSub (mN fInt (aCons (mOp2 fEq (mOp2 fIx (mV 5) (mC (.int 0))) (mC (.str "begin"))) aNil)) (mN fInt (aCons (mOp2 fEq (mOp2 fIx (mV 5) (mC (.int 0))) (mC (.str "done"))) aNil)))
noncomputable def pL3 : Ms := sIf (tBl (mOp2 cLt (mV 3) (mC (.int 0)))) (sSeq sNever sNil) sNil
noncomputable def pLp : Ms := sFor (.tp [(.nm 4), (.nm 5)]) (iEnum (aCons (mV 2) aNil)) (sSeq pL1 (sSeq pL2 (sSeq pL3 sNil)))
noncomputable def pKp : Ms := sExpr (mMeth [("Plan", m_Plan_keep), ("RawPlan", m_Plan_keep)] "keep" (mV 0) (aCons (mV 1) (aCons (mV 2) aNil)))
section
variable {n : Nat} {K : List (Option Val)} {xs : List Stp}
structure PlanOk (n : Nat) (K : List (Option Val)) (xs : List Stp) : Prop where
  n1 : 1 ≤ n
  n2 : n ≤ 64
  len : K.length = n
  hk : ∀ o ∈ K, HOkV o
  nn : none ∉ K
  few : xs.length ≤ 200
  st : ∀ x ∈ xs, StpOk n x
  pre : PreOk xs
theorem pLp_ok (p : PlanOk n K xs) (h : AH) {g0 g4 g5 : Option D} :
    ∃ u4 u5, pLp [g0, some (.tup (K.map hvD)), some (.tup (xs.map stD)), some (.int 0), g4, g5] h = .next [g0, some (.tup (K.map hvD)), some (.tup (xs.map stD)), some (.int (und xs)), u4, u5] h := by
  obtain ⟨G', h', c, u4, u5, rfl, eh'⟩ := for_invN (p := .tp [(.nm 4), (.nm 5)]) (body := sSeq pL1 (sSeq pL2 (sSeq pL3 sNil))) (all0 := (List.range' 0 xs.length).map (encS xs))
    (fun j G hh => ∃ u4 u5, G = [g0, some (.tup (K.map hvD)), some (.tup (xs.map stD)), some (.int (und (xs.take j))), u4, u5] ∧ hh = h)
    (encS xs) xs.length 0 xs.length (by omega)
    (by
      rintro i hi G hh ⟨u4, u5, rfl, rfl⟩
      obtain ⟨x, ex⟩ : ∃ x, x = xs.getD i .bar := ⟨_, rfl⟩
      have hx : StpOk n x := by
        rw [ex, List.getD_eq_getElem?_getD, List.getElem?_eq_getElem hi]
        exact p.st _ (List.getElem_mem hi)
      have eu := und_take hi
      rw [← ex] at eu
      have c1 : pL1 [g0, some (.tup (K.map hvD)), some (.tup (xs.map stD)), some (.int (und (xs.take i))), some (.int (i : Int)), some (stD x)] hh = .next [g0, some (.tup (K.map hvD)), some (.tup (xs.map stD)), some (.int (und (xs.take i))), some (.int (i : Int)), some (stD x)] hh := by
        have hl : fLen [D.tup (K.map hvD)] hh = .ok (.int (n : Int)) hh := by simp [p.len]
        unfold pL1
        by_cases q : (isW x || isBar x) = true
        · simp only [v_sIf, v_tAnd, v_tNot, v_tOf, v_mN, v_aCons, v_aNil, v_mV, List.getElem?_cons_succ, List.getElem?_cons_zero, Res.bind_ok, hl, is_disk_step_ok hx, q, v_truB, Bool.not_true, Bool.false_eq_true, if_false, Res.toS_ok, v_sNil]
        · have qf : (isW x || isBar x) = false := by simpa using q
          have q2 : (isBeg x || isDon x) = true := by cases x <;> first | rfl | (exact absurd rfl q)
          simp only [v_sIf, v_tAnd, v_tNot, v_tOf, v_mN, v_aCons, v_aNil, v_mV, List.getElem?_cons_succ, List.getElem?_cons_zero, Res.bind_ok, hl, is_disk_step_ok hx, qf, v_truB, Bool.not_false, if_true, is_deed_ok q2, Bool.not_true, Bool.false_eq_true, if_false, Res.toS_ok, v_sNil]
      have c2 : pL2 [g0, some (.tup (K.map hvD)), some (.tup (xs.map stD)), some (.int (und (xs.take i))), some (.int (i : Int)), some (stD x)] hh = .next [g0, some (.tup (K.map hvD)), some (.tup (xs.map stD)), some (.int (und (xs.take (i + 1)))), some (.int (i : Int)), some (stD x)] hh := by
        unfold pL2
        simp only [v_sAug, List.getElem?_cons_succ, List.getElem?_cons_zero, v_mOp2, v_mN, v_aCons, v_aNil, v_mV, v_mC, Res.bind_ok, stD_0, is_beg, is_don, v_intB, v_sub, Res.toS_ok, lift_eq, ← eu, List.set_cons_succ, List.set_cons_zero]
      have c3 : pL3 [g0, some (.tup (K.map hvD)), some (.tup (xs.map stD)), some (.int (und (xs.take (i + 1)))), some (.int (i : Int)), some (stD x)] hh = .next [g0, some (.tup (K.map hvD)), some (.tup (xs.map stD)), some (.int (und (xs.take (i + 1)))), some (.int (i : Int)), some (stD x)] hh := by
        have := p.pre (i + 1)
        have ef : decide (und (xs.take (i + 1)) < 0) = false := decide_eq_false (by omega)
        unfold pL3
        simp only [v_sIf, v_tBl, v_mOp2, v_mV, v_mC, List.getElem?_cons_succ, List.getElem?_cons_zero, Res.bind_ok, v_cLt, ef, Res.toS_ok, Bool.false_eq_true, if_false, v_sNil]
      refine ⟨[g0, some (.tup (K.map hvD)), some (.tup (xs.map stD)), some (.int (und (xs.take i))), some (.int (i : Int)), some (stD x)], _, _, ?_, ?_, some (.int (i : Int)), some (stD x), rfl, rfl⟩
      · unfold encS
        rw [← ex]
        rfl
      · simp only [v_sSeq, c1, SR.andThen_next, c2, c3, v_sNil])
    [g0, some (.tup (K.map hvD)), some (.tup (xs.map stD)), some (.int 0), g4, g5] h ⟨g4, g5, rfl, rfl⟩
  rw [List.take_length, eh'] at c
  refine ⟨u4, u5, ?_⟩
  have i1 : (iEnum (aCons (mV 2) aNil)) [g0, some (.tup (K.map hvD)), some (.tup (xs.map stD)), some (.int 0), g4, g5] h = .ok ((List.range' 0 xs.length).map (encS xs), none) h := by
    rw [v_enum]
    simp only [v_aCons, v_aNil, v_mV, List.getElem?_cons_succ, List.getElem?_cons_zero, Res.bind_ok, enum_S]
  unfold pLp
  simp only [v_sFor, i1, Res.toS_ok, c]
theorem keepM_ok {h : AH} {nP : Nat} (e : h[nP]? = some (.ins "Plan" [])) {g3 g4 g5 : Option D} :
    pKp [some (.loc nP), some (.tup (K.map hvD)), some (.tup (xs.map stD)), g3, g4, g5] h = .next [some (.loc nP), some (.tup (K.map hvD)), some (.tup (xs.map stD)), g3, g4, g5] (h.set nP (.ins "Plan" (planF K xs))) := by
  have n0 : ("Plan" : Str) ∈ [("Plan" : Str), ("RawPlan" : Str)] := List.mem_cons_self
  have z1 : (0 : Nat) < 1000 := by decide
  have z2 : (putD "kept_state" (.tup (K.map hvD)) []).length < 1000 := by show (1 : Nat) < 1000; decide
  have lp := lt_of_get e
  have e0 : List.lookup ("Plan" : Str) [(("Plan" : Str), m_Plan_keep), (("RawPlan" : Str), m_Plan_keep)] = some m_Plan_keep := lookup_one
  have ek : List.lookup ("keep" : Str) ([] : List (Str × D)) = none := rfl
  have g1 : ∀ x : AO, (h.set nP x)[nP]? = some x := fun x => List.getElem?_set_self lp
  have ec : m_Plan_keep [.loc nP, .tup (K.map hvD), .tup (xs.map stD)] h = .ok .non (h.set nP (.ins "Plan" (planF K xs))) := by
    simp only [m_Plan_keep, mDefK, b_Plan_keep, List.length_cons, List.length_nil, Nat.zero_add, Nat.reduceAdd, if_true, List.map_cons, List.map_nil, Nat.sub_self, List.replicate_zero, List.append_nil, v_sSeq, v_sFld, v_mV, List.getElem?_cons_succ, List.getElem?_cons_zero, Res.toS_ok, e, n0, List.length_nil, z1, and_self, g1, z2, SR.andThen_next, List.set_set, pf_new, v_sNil]
  unfold pKp
  simp only [v_sExpr, v_mMeth, v_mV, List.getElem?_cons_zero, List.getElem?_cons_succ, Res.bind_ok, e, e0, ek, v_aCons, v_aNil, ec, Res.toS_ok]
theorem plan_ok (p : PlanOk n K xs) {G : AB.Env} {i j : Nat} (hi : G[i]? = some (some (.tup (K.map hvD)))) (hj : G[j]? = some (some (.tup (xs.map stD)))) (h : AH) :
    (mMake "Plan" m_Plan___init__ (aCons (mV i) (aCons (mV j) aNil))) G h = .ok (.loc h.length) (h ++ [.ins "Plan" (planF K xs)]) := by
  obtain ⟨h0, eh0⟩ : ∃ h0, h0 = h ++ [AO.ins "Plan" []] := ⟨_, rfl⟩
  have gP : h0[h.length]? = some (.ins "Plan" []) := by rw [eh0, g_app0]; rfl
  have c1 : pI1 [some (.loc h.length), some (.tup (K.map hvD)), some (.tup (xs.map stD)), none, none, none] h0 = .next [some (.loc h.length), some (.tup (K.map hvD)), some (.tup (xs.map stD)), none, none, none] h0 := by
    have es := is_state_ok (h := h0) (st := K) (by rw [p.len]; exact p.n1) (by rw [p.len]; exact p.n2) p.hk
    have en := in_hvT (h := h0) none K
    rw [decide_eq_false p.nn] at en
    have en : fIn .non (.tup (K.map hvD)) h0 = .ok (.bl false) h0 := en
    unfold pI1
    simp only [v_sIf, v_tOr, v_tNot, v_tOf, v_tBl, v_mOp2, v_mN, v_aCons, v_aNil, v_mV, v_mC, List.getElem?_cons_succ, List.getElem?_cons_zero, Res.bind_ok, es, v_truB, Bool.not_true, Bool.false_eq_true, if_false, en, Res.toS_ok, v_sNil]
  have c2 : pI2 [some (.loc h.length), some (.tup (K.map hvD)), some (.tup (xs.map stD)), none, none, none] h0 = .next [some (.loc h.length), some (.tup (K.map hvD)), some (.tup (xs.map stD)), none, none, none] h0 := by
    have l2 : ¬ (200 : Int) < xs.length := by have := p.few; omega
    unfold pI2
    simp [Ty.sub, l2]
  obtain ⟨u4, u5, c3⟩ := pLp_ok p h0 (g0 := some (.loc h.length)) (g4 := none) (g5 := none)
  have c4 := keepM_ok (K := K) (xs := xs) gP (g3 := some (.int (und xs))) (g4 := u4) (g5 := u5)
  have es : h0.set h.length (.ins "Plan" (planF K xs)) = h ++ [.ins "Plan" (planF K xs)] := by rw [eh0, s_app0]; rfl
  rw [es] at c4
  have eb : b_Plan___init__ [some (.loc h.length), some (.tup (K.map hvD)), some (.tup (xs.map stD)), none, none, none] h0 = .next [some (.loc h.length), some (.tup (K.map hvD)), some (.tup (xs.map stD)), some (.int (und xs)), u4, u5] (h ++ [.ins "Plan" (planF K xs)]) := by
    have eq : b_Plan___init__ = sSeq pI1 (sSeq pI2 (sSeq (sSet 3 (mC (.int 0))) (sSeq pLp (sSeq pKp sNil)))) := rfl
    rw [eq]
    simp only [v_sSeq, c1, SR.andThen_next, c2, v_sSet, v_mC, Res.toS_ok, List.set_cons_succ, List.set_cons_zero, c3, c4, v_sNil]
  have em : m_Plan___init__ [.loc h.length, .tup (K.map hvD), .tup (xs.map stD)] h0 = .ok .non (h ++ [.ins "Plan" (planF K xs)]) := by
    simp [m_Plan___init__, mDefK, eb]
  rw [eh0] at em
  simp only [v_mMake, v_aCons, v_aNil, v_mV, hi, hj, Res.bind_ok, em]
end
end My
namespace My
open PySem hiding Tree
open AB L2
namespace R
theorem ne_str {h : AH} {x y : Str} (hx : SeqAt.shaped (.str x) = true) (hy : SeqAt.shaped (.str y) = true) : fNe (.str x) (.str y) h = .ok (.bl (!(x == y))) h := by
  unfold fNe
  rw [okP_str hx, okP_str hy]
  simp [PyData.eqv]
theorem sh_bar : SeqAt.shaped (.str "barrier") = true := by decide +kernel
end R

end My
/-! bare plans, their disks -/
namespace My
open PySem hiding Tree
open AB L2
noncomputable def bareL (xs : List Stp) : List Stp := xs.filter fun x => !isBar x
theorem bareL_bare (xs : List Stp) : ∀ x ∈ bareL xs, isBar x = false := fun x hx => by
  have := (List.mem_filter.mp hx).2
  simpa using this
theorem bar_eq (x : Stp) : (x.nm == ("barrier" : Str)) = isBar x := by
  cases x with
  | wr s v => rw [nm_wr]; show _ = isBar (.wr 0 []); decide +kernel
  | bar => decide +kernel
  | beg => decide +kernel
  | don => decide +kernel
theorem ne_bar {h : AH} (x : Stp) : fNe (.str x.nm) (.str "barrier") h = .ok (.bl (!isBar x)) h := by
  rw [R.ne_str (sh_nm x) R.sh_bar, bar_eq]
section
variable {h : AH} {C : Str} {nP : Nat} {K : List (Option Val)} {xs : List Stp} {G : AB.Env} {i j m : Nat}
theorem stateC_ok (hC : C ∈ [("Plan" : Str), ("RawPlan" : Str)]) (hi : G[i]? = some (some (.loc nP))) (gP : h[nP]? = some (.ins C (planF K xs))) : (mFld ["Plan", "RawPlan"] "kept_state" (mV i)) G h = .ok (.tup (K.map hvD)) h := by
  simp only [v_mFld, v_mV, hi, Res.bind_ok, gP, hC, if_true, pf_state]
theorem stepsC_ok (hC : C ∈ [("Plan" : Str), ("RawPlan" : Str)]) (hi : G[i]? = some (some (.loc nP))) (gP : h[nP]? = some (.ins C (planF K xs))) : (mFld ["Plan", "RawPlan"] "kept_steps" (mV i)) G h = .ok (.tup (xs.map stD)) h := by
  simp only [v_mFld, v_mV, hi, Res.bind_ok, gP, hC, if_true, pf_steps]
theorem cRaw : ("RawPlan" : Str) ∈ [("Plan" : Str), ("RawPlan" : Str)] := List.mem_cons_of_mem _ List.mem_cons_self
theorem bare_steps_ok (hC : C ∈ [("Plan" : Str), ("RawPlan" : Str)]) (gP : h[nP]? = some (.ins C (planF K xs))) (hl : xs.length ≤ 1000) : m_bare_steps [.loc nP] h = .ok (.tup ((bareL xs).map stD)) h := by
  have e := comp_ok (p := .nm 1) (t := tBl (mOp2 fNe (mOp2 fIx (mV 1) (mC (.int 0))) (mC (.str "barrier")))) (e := mV 1) (all0 := xs.map stD) (G0 := wipeG [some (.loc nP), none] [1]) (h := h) stD (fun x => !isBar x) stD xs (fun x hx => ⟨[some (.loc nP), some (stD x)], rfl, by
    simp only [v_tBl, v_mOp2, v_mV, v_mC, List.getElem?_cons_succ, List.getElem?_cons_zero, Res.bind_ok, stD_0, ne_bar], fun _ => rfl⟩)
  have e0 := stepsC_ok hC (G := [some (.loc nP), none]) (i := 0) rfl gP
  have ei : (iSeq (mFld ["Plan", "RawPlan"] "kept_steps" (mV 0))) [some (.loc nP), none] h = .ok (xs.map stD, none) h := by
    rw [v_iSeq, e0]
    rfl
  have lb : (xs.map stD).length ≤ big := by rw [List.length_map, big_eq]; omega
  have eb : b_bare_steps [some (.loc nP), none] h = .ret (.tup ((bareL xs).map stD)) h := by
    unfold b_bare_steps
    simp only [v_sSeq, v_sRet, v_mN, v_aCons, v_aNil, v_mL, v_lComp, ei, Res.bind_ok, lb, if_true, e, v_tuple, v_vSl, Res.toS_ok, SR.andThen_ret]
    rfl
  simp [m_bare_steps, mDef, eb]
theorem keepR_ok {h : AH} (K : List (Option Val)) (xs : List Stp) : m_RawPlan___init__ [.loc h.length, .tup (K.map hvD), .tup (xs.map stD)] (h ++ [AO.ins "RawPlan" []]) = .ok .non (h ++ [AO.ins "RawPlan" (planF K xs)]) := by
  obtain ⟨h0, eh0⟩ : ∃ h0, h0 = h ++ [AO.ins "RawPlan" []] := ⟨_, rfl⟩
  have e : h0[h.length]? = some (.ins "RawPlan" []) := by rw [eh0, g_app0]; rfl
  have es : ∀ x : AO, h0.set h.length x = h ++ [x] := fun x => by rw [eh0, s_app0]; rfl
  have z1 : (0 : Nat) < 1000 := by decide
  have z2 : (putD "kept_state" (.tup (K.map hvD)) []).length < 1000 := by show (1 : Nat) < 1000; decide
  have lp := lt_of_get e
  have e0 : List.lookup ("RawPlan" : Str) [(("RawPlan" : Str), m_Plan_keep)] = some m_Plan_keep := lookup_one
  have ek : List.lookup ("keep" : Str) ([] : List (Str × D)) = none := rfl
  have g1 : ∀ x : AO, (h0.set h.length x)[h.length]? = some x := fun x => List.getElem?_set_self lp
  have ec : m_Plan_keep [.loc h.length, .tup (K.map hvD), .tup (xs.map stD)] h0 = .ok .non (h0.set h.length (.ins "RawPlan" (planF K xs))) := by
    simp only [m_Plan_keep, mDefK, b_Plan_keep, List.length_cons, List.length_nil, Nat.zero_add, Nat.reduceAdd, if_true, List.map_cons, List.map_nil, Nat.sub_self, List.replicate_zero, List.append_nil, v_sSeq, v_sFld, v_mV, List.getElem?_cons_succ, List.getElem?_cons_zero, Res.toS_ok, e, cRaw, List.length_nil, z1, and_self, g1, z2, SR.andThen_next, List.set_set, pf_new, v_sNil]
  rw [← eh0]
  have eb : b_RawPlan___init__ [some (.loc h.length), some (.tup (K.map hvD)), some (.tup (xs.map stD))] h0 = .next [some (.loc h.length), some (.tup (K.map hvD)), some (.tup (xs.map stD))] (h ++ [AO.ins "RawPlan" (planF K xs)]) := by
    unfold b_RawPlan___init__
    simp only [v_sSeq, v_sExpr, v_mMeth, v_mV, List.getElem?_cons_zero, List.getElem?_cons_succ, Res.bind_ok, e, e0, ek, v_aCons, v_aNil, ec, es, Res.toS_ok, SR.andThen_next, v_sNil]
  simp [m_RawPlan___init__, mDefK, eb]
end
end My
namespace My
open PySem hiding Tree
open AB L2
section
variable {h : AH} {xs : List Stp}
theorem law_bare_ok (hl : xs.length ≤ 1000) : m__law_bare [.tup (xs.map stD)] h = .ok (.tup ((bareL xs).map stD)) h := by
  have e := comp_ok (p := .nm 1) (t := tBl (mOp2 fNe (mOp2 fIx (mV 1) (mC (.int 0))) (mC (.str "barrier")))) (e := mV 1) (all0 := xs.map stD) (G0 := wipeG [some (.tup (xs.map stD)), none] [1]) (h := h) stD (fun x => !isBar x) stD xs (fun x hx => ⟨[some (.tup (xs.map stD)), some (stD x)], rfl, by
    simp only [v_tBl, v_mOp2, v_mV, v_mC, List.getElem?_cons_succ, List.getElem?_cons_zero, Res.bind_ok, stD_0, ne_bar], fun _ => rfl⟩)
  have ei : (iSeq (mV 0)) [some (.tup (xs.map stD)), none] h = .ok (xs.map stD, none) h := rfl
  have lb : (xs.map stD).length ≤ big := by rw [List.length_map, big_eq]; omega
  have eb : b__law_bare [some (.tup (xs.map stD)), none] h = .ret (.tup ((bareL xs).map stD)) h := by
    unfold b__law_bare
    simp only [v_sSeq, v_sRet, v_mN, v_aCons, v_aNil, v_mL, v_lComp, ei, Res.bind_ok, lb, if_true, e, v_tuple, v_vSl, Res.toS_ok, SR.andThen_ret]
    rfl
  simp [m__law_bare, mDef, eb]
end

end My
namespace My
open PySem hiding Tree
open AB L2
open R
theorem appD_ok {G : AB.Env} {hh tl tl' : AH} {ds : List D} {d : D} {i : Nat} {mk : Me} (hl : ds.length < 1000000) (hi : G[i]? = some (some (.loc hh.length))) (hm : mk G (hh ++ AO.lst ds :: tl) = .ok d (hh ++ AO.lst ds :: tl')) :
    sExpr (mBM fApp (mV i) (aCons mk aNil)) G (hh ++ AO.lst ds :: tl) = .next G (hh ++ AO.lst (ds ++ [d]) :: tl') := by
  have hb : ds.length < big := by rw [big_eq]; exact hl
  simp only [v_sExpr, v_mBM, v_mV, hi, Res.bind_ok, v_vLo, get_mid, v_aCons, v_aNil, hm, v_app, hb, if_true, Res.toS_ok, set_mid]
theorem ix_nat {ds : List D} {i : Nat} {d : D} (e : ds[i]? = some d) {h : AH} : fIx (.tup ds) (.int (i : Int)) h = .ok d h := by
  have e1 := ixN_nat (lt_of_get e)
  unfold fIx
  show (match atI ds (i : Int) with | some d => Res.ok d h | none => .stuck) = _
  unfold atI
  rw [e1]
  show (match ds[i]? with | some d => Res.ok d h | none => .stuck) = _
  rw [e]
noncomputable def nD (q : Nat) : D := .int (q : Int)
theorem under_ns (n : Nat) (qs : List Nat) : underL n (qs.map nD) = true := by
  induction qs with
  | nil => simp [underL]
  | cons q qs ih => simp [underL, ih, D.under, nD]
theorem cmp_lt (a b : Nat) : decide ((a : Int) < (b : Int)) = decide (a < b) := by
  by_cases c : a < b
  · rw [decide_eq_true c, decide_eq_true (by omega)]
  · rw [decide_eq_false c, decide_eq_false (by omega)]
theorem cmp_le (a b : Nat) : decide ((a : Int) ≤ (b : Int)) = decide (a ≤ b) := by
  by_cases c : a ≤ b
  · rw [decide_eq_true c, decide_eq_true (by omega)]
  · rw [decide_eq_false c, decide_eq_false (by omega)]
noncomputable def Asc (M : List Nat) : Prop := M.Pairwise (· < ·)
noncomputable def putB (lot : List Nat) (i : Nat) : List Stp := if i ∈ lot then [.bar] else []
noncomputable def preW (lot : List Nat) (bs : List Stp) : Nat → List Stp
  | 0 => []
  | m + 1 => preW lot bs m ++ (putB lot m ++ (bs[m]?).toList)
noncomputable def withL (lot : List Nat) (bs : List Stp) : List Stp := preW lot bs (bs.length + 1)
theorem take_snoc {bs : List Stp} {m : Nat} : bs.take (m + 1) = bs.take m ++ (bs[m]?).toList := List.take_succ
noncomputable def MemD (d : D) (L : List Nat) : Prop := ∀ (i : Nat) (h : AH), fIn (.int (i : Int)) d h = .ok (.bl (decide (i ∈ L))) h
theorem toPs_gen {α : Type} (f : α → D) (g : α → PyData) (h : ∀ x, toP (f x) = some (g x)) : ∀ xs : List α, toPs (xs.map f) = some (xs.map g)
  | [] => rfl
  | x :: xs => by
    show (match toP (f x), toPs (xs.map f) with | some p, some ps => some (p :: ps) | _, _ => none) = _
    rw [h x, toPs_gen f g h xs]
    rfl
theorem any_nD (k : Nat) (L : List Nat) : ((L.map fun q : Nat => PyData.int (q : Int)).any fun z => PyData.eqv z (.int (k : Int))) = decide (k ∈ L) := by
  induction L with
  | nil => rfl
  | cons n ns ih =>
    rw [List.map_cons, List.any_cons, ih]
    simp only [PyData.eqv, List.mem_cons]
    by_cases h : n = k
    · subst h
      simp
    · have h2 : ¬ k = n := fun e => h e.symm
      have h3 : ¬ (n : Int) = (k : Int) := by omega
      simp [h2, h3]
theorem toPs_n (L : List Nat) : toPs (L.map nD) = some (L.map fun q : Nat => PyData.int (q : Int)) := toPs_gen nD (fun q : Nat => PyData.int (q : Int)) (fun _ => rfl) L
theorem lay_n : ∀ L : List Nat, PyData.canLayAll0 (L.map fun q : Nat => PyData.int (q : Int)) = true
  | [] => rfl
  | n :: ns => by simp [PyData.canLayAll0, PyData.canLay0, lay_n ns]
theorem dep_n : ∀ L : List Nat, PyData.depthAll (L.map fun q : Nat => PyData.int (q : Int)) = 0
  | [] => by simp [PyData.depthAll]
  | n :: ns => by simp [PyData.depthAll, PyData.depth, dep_n ns]
theorem okP_nT {h : AH} (L : List Nat) : okP h (.tup (L.map nD)) = some (.tuple (L.map fun q : Nat => PyData.int (q : Int))) := by
  unfold okP
  have e : toPh h (.tup (L.map nD)) = some (.tuple (L.map fun q : Nat => PyData.int (q : Int))) := toP_tup (toPs_n L)
  rw [e]
  have e3 : SeqAt.shaped (.tuple (L.map fun q : Nat => PyData.int (q : Int))) = true := by
    simp [SeqAt.shaped, PyData.canLay0, lay_n, PyData.depth, dep_n]
  simp [e3]
theorem okP_nL {h : AH} (L : List Nat) : okP h (.lst (L.map nD)) = some (.list (L.map fun q : Nat => PyData.int (q : Int))) := by
  unfold okP
  have e : toPh h (.lst (L.map nD)) = some (.list (L.map fun q : Nat => PyData.int (q : Int))) := by
    show toP (.lst (L.map nD)) = _
    unfold toP
    rw [toPs_n]
    rfl
  rw [e]
  have e3 : SeqAt.shaped (.list (L.map fun q : Nat => PyData.int (q : Int))) = true := by
    simp [SeqAt.shaped, PyData.canLay0, lay_n, PyData.depth, dep_n]
  simp [e3]
theorem memT (L : List Nat) : MemD (.tup (L.map nD)) L := fun i h => by
  unfold fIn inD
  have e : okP h (.int (i : Int)) = some (.int (i : Int)) := rfl
  rw [e, okP_nT]
  simp only [any_nD]
theorem range_split {k : Nat} {done rest : List Nat} {m : Nat} (e : done ++ m :: rest = List.range k) : done.length = m ∧ m < k := by
  have h1 : (List.range k)[done.length]? = some m := by rw [← e]; simp
  have hl : done.length < (List.range k).length := (List.getElem?_eq_some_iff.mp h1).1
  rw [List.length_range] at hl
  rw [List.getElem?_range hl] at h1
  injection h1 with h1
  exact ⟨h1, by omega⟩
theorem preW_len (lot : List Nat) (bs : List Stp) : ∀ m, (preW lot bs m).length ≤ 2 * m
  | 0 => Nat.le_refl _
  | m + 1 => by
    have ih := preW_len lot bs m
    have h1 : (putB lot m).length ≤ 1 := by unfold putB; split <;> simp
    have h2 : ((bs[m]?).toList).length ≤ 1 := by cases bs[m]? <;> simp
    show (preW lot bs m ++ (putB lot m ++ (bs[m]?).toList)).length ≤ _
    rw [List.length_append, List.length_append]
    omega
noncomputable def lwA (i : Nat) : Ms := sIf (tBl (mOp2 fIn (mV (i + 1)) (mV 1))) (sSeq (sExpr (mBM fApp (mV i) (aCons (mN fTup (aCons (mC (.str "barrier")) aNil)) aNil))) sNil) sNil
noncomputable def lwS : Ms := sIf (tBl (mOp2 cLt (mV 3) (mN fLen (aCons (mV 0) aNil)))) (sSeq (sExpr (mBM fApp (mV 2) (aCons (mOp2 fIx (mV 0) (mV 3)) aNil))) sNil) sNil
section
variable {hh : AH} {bs : List Stp} {lot : List Nat} {d : D}
theorem lwA_ok (hd : MemD d lot) {i m : Nat} {G : AB.Env} (g1 : G[1]? = some (some d)) (gi : G[i]? = some (some (.loc hh.length))) (gm : G[i + 1]? = some (some (.int (m : Int)))) {X : List Stp} (hl : X.length < 1000) :
    lwA i G (hh ++ AO.lst (X.map stD) :: []) = .next G (hh ++ AO.lst ((X ++ putB lot m).map stD) :: []) := by
  have b1 : (1 : Nat) ≤ big := by decide
  have e1 := hd m (hh ++ AO.lst (X.map stD) :: [])
  have ec : (tBl (mOp2 fIn (mV (i + 1)) (mV 1))) G (hh ++ AO.lst (X.map stD) :: []) = .ok (decide (m ∈ lot)) (hh ++ AO.lst (X.map stD) :: []) := by
    simp only [v_tBl, v_mOp2, v_mV, g1, gm, Res.bind_ok, e1]
  have ea := appD_ok (hh := hh) (tl := []) (tl' := []) (ds := X.map stD) (d := .tup [.str "barrier"]) (i := i) (mk := mN fTup (aCons (mC (.str "barrier")) aNil)) (G := G) (by rw [List.length_map]; omega) gi (by
    simp only [v_mN, v_aCons, v_aNil, v_mC, Res.bind_ok, v_fTup, List.length_cons, List.length_nil, Nat.zero_add, b1, if_true])
  unfold lwA putB
  by_cases c : m ∈ lot
  · rw [decide_eq_true c] at ec
    rw [if_pos c, List.map_append]
    have e2 : ([Stp.bar].map stD) = [.tup [.str "barrier"]] := rfl
    rw [e2]
    simp only [v_sIf, ec, Res.toS_ok, if_true, v_sSeq, ea, SR.andThen_next, v_sNil]
  · rw [decide_eq_false c] at ec
    rw [if_neg c, List.append_nil]
    simp only [v_sIf, ec, Res.toS_ok, Bool.false_eq_true, if_false, v_sNil]
theorem lwS_ok {m : Nat} {d1 : Option D} {X : List Stp} (hl : X.length < 1000) (hb : bs.length ≤ 200) :
    lwS [some (.tup (bs.map stD)), d1, some (.loc hh.length), some (.int (m : Int))] (hh ++ AO.lst (X.map stD) :: []) = .next [some (.tup (bs.map stD)), d1, some (.loc hh.length), some (.int (m : Int))] (hh ++ AO.lst ((X ++ (bs[m]?).toList).map stD) :: []) := by
  have hlen : fLen [.tup (bs.map stD)] (hh ++ AO.lst (X.map stD) :: []) = .ok (.int (bs.length : Int)) (hh ++ AO.lst (X.map stD) :: []) := by simp
  have ec : (tBl (mOp2 cLt (mV 3) (mN fLen (aCons (mV 0) aNil)))) [some (.tup (bs.map stD)), d1, some (.loc hh.length), some (.int (m : Int))] (hh ++ AO.lst (X.map stD) :: []) = .ok (decide (m < bs.length)) (hh ++ AO.lst (X.map stD) :: []) := by
    simp only [v_tBl, v_mOp2, v_mN, v_aCons, v_aNil, v_mV, List.getElem?_cons_succ, List.getElem?_cons_zero, Res.bind_ok, hlen, v_cLt, cmp_lt]
  unfold lwS
  by_cases c : m < bs.length
  · rw [decide_eq_true c] at ec
    have e0 : bs[m]? = some bs[m] := List.getElem?_eq_getElem c
    have e1 : (bs.map stD)[m]? = some (stD bs[m]) := by rw [List.getElem?_map, e0]; rfl
    have ea := appD_ok (hh := hh) (tl := []) (tl' := []) (ds := X.map stD) (d := stD bs[m]) (i := 2) (mk := mOp2 fIx (mV 0) (mV 3)) (G := [some (.tup (bs.map stD)), d1, some (.loc hh.length), some (.int (m : Int))]) (by rw [List.length_map]; omega) rfl (by
      simp only [v_mOp2, v_mV, List.getElem?_cons_succ, List.getElem?_cons_zero, Res.bind_ok, ix_nat e1])
    rw [e0, List.map_append]
    have e2 : ((some bs[m]).toList.map stD) = [stD bs[m]] := rfl
    rw [e2]
    simp only [v_sIf, ec, Res.toS_ok, if_true, v_sSeq, ea, SR.andThen_next, v_sNil]
  · rw [decide_eq_false c] at ec
    have e0 : bs[m]? = none := List.getElem?_eq_none_iff.mpr (by omega)
    rw [e0]
    simp only [v_sIf, ec, Res.toS_ok, Bool.false_eq_true, if_false, v_sNil, Option.toList_none, List.append_nil]
theorem under_steps (k : Nat) (xs : List Stp) : D.under k (.tup (xs.map stD)) = true := by
  simp only [D.under]
  exact under_stDs _ _
theorem law_with_ok (hd : MemD d lot) (hb : bs.length ≤ 200) (h : AH) : m__law_with [.tup (bs.map stD), d] h = .ok (.tup ((withL lot bs).map stD)) h := by
  have b0 : (0 : Nat) ≤ big := by decide
  obtain ⟨G', h', c, u3, rfl, rfl⟩ := for_pre (p := .nm 3) (body := sSeq (lwA 2) (sSeq lwS sNil)) (all0 := (List.range (bs.length + 1)).map fun i : Nat => D.int (i : Int))
    (fun done G hh => ∃ u3, G = [some (.tup (bs.map stD)), some d, some (.loc h.length), u3] ∧ hh = h ++ AO.lst ((preW lot bs done.length).map stD) :: [])
    (fun i : Nat => D.int (i : Int)) (List.range (bs.length + 1)) (List.range (bs.length + 1)) [] rfl
    (by
      rintro done m rest ed G hh ⟨u3, rfl, rfl⟩
      obtain ⟨e1, e2⟩ := range_split ed
      have pl := preW_len lot bs m
      rw [e1]
      have a1 := lwA_ok (hh := h) (i := 2) (m := m) hd (G := [some (.tup (bs.map stD)), some d, some (.loc h.length), some (.int (m : Int))]) rfl rfl rfl (X := preW lot bs m) (by omega)
      have a2 := lwS_ok (hh := h) (bs := bs) (m := m) (d1 := some d) (X := preW lot bs m ++ putB lot m) (by
        rw [List.length_append]
        have h1 : (putB lot m).length ≤ 1 := by unfold putB; split <;> simp
        omega) hb
      refine ⟨[some (.tup (bs.map stD)), some d, some (.loc h.length), some (.int (m : Int))], _, h ++ AO.lst ((preW lot bs (m + 1)).map stD) :: [], rfl, ?_, some (.int (m : Int)), rfl, ?_⟩
      · have ep : preW lot bs (m + 1) = preW lot bs m ++ putB lot m ++ (bs[m]?).toList := by
          show preW lot bs m ++ (putB lot m ++ (bs[m]?).toList) = _
          rw [List.append_assoc]
        rw [ep]
        simp only [v_sSeq, a1, SR.andThen_next, a2, v_sNil]
      · rw [List.length_append, List.length_singleton, e1])
    [some (.tup (bs.map stD)), some d, some (.loc h.length), none] (h ++ AO.lst [] :: []) ⟨none, rfl, rfl⟩
  have ew : preW lot bs (List.range (bs.length + 1)).length = withL lot bs := by rw [List.length_range]; rfl
  rw [ew] at c
  have ei : (iRange1 (aCons (mOp2 fAdd (mN fLen (aCons (mV 0) aNil)) (mC (.int 1))) aNil)) [some (.tup (bs.map stD)), some d, some (.loc h.length), none] (h ++ AO.lst [] :: []) = .ok ((List.range (bs.length + 1)).map fun i : Nat => D.int (i : Int), none) (h ++ AO.lst [] :: []) := by
    have o1 : okR ((bs.length : Int) + 1) := ⟨by omega, by omega⟩
    have er : rangeD 0 (bs.length + 1) = (List.range (bs.length + 1)).map fun i : Nat => D.int (i : Int) := rangeD_eq _
    have x2 : fLen [D.tup (bs.map stD)] (h ++ AO.lst [] :: []) = .ok (.int (bs.length : Int)) (h ++ AO.lst [] :: []) := by simp
    rw [v_range1]
    simp only [v_aCons, v_aNil, v_mOp2, v_mN, v_mV, v_mC, List.getElem?_cons_succ, List.getElem?_cons_zero, Res.bind_ok, x2, v_add, o1, if_true]
    have : ((bs.length : Int) + 1).toNat = bs.length + 1 := by omega
    rw [this, er]
  have eb : b__law_with [some (.tup (bs.map stD)), some d, none, none] h = .ret (.tup ((withL lot bs).map stD)) (h ++ AO.lst ((withL lot bs).map stD) :: []) := by
    have eq : b__law_with = sSeq (sSet 2 (mNew (lLst aNil))) (sSeq (sFor (.nm 3) (iRange1 (aCons (mOp2 fAdd (mN fLen (aCons (mV 0) aNil)) (mC (.int 1))) aNil)) (sSeq (lwA 2) (sSeq lwS sNil))) (sSeq (sRet (mN fTuple (aCons (mV 2) aNil))) sNil)) := rfl
    have s1 : (sSet 2 (mNew (lLst aNil))) [some (.tup (bs.map stD)), some d, none, none] h = .next [some (.tup (bs.map stD)), some d, some (.loc h.length), none] (h ++ AO.lst [] :: []) := by
      simp only [v_sSet, v_mNew, v_lLst, v_aNil, Res.bind_ok, List.length_nil, b0, if_true, Res.toS_ok]
      rfl
    rw [eq]
    simp only [v_sSeq, s1, SR.andThen_next, v_sFor, ei, Res.toS_ok, c, v_sRet, v_mN, v_aCons, v_aNil, v_mV, List.getElem?_cons_succ, List.getElem?_cons_zero, Res.bind_ok, v_tuple, v_vSo, get_mid, SR.andThen_ret]
  have fin := finD_app h (AO.lst ((withL lot bs).map stD) :: []) (.tup ((withL lot bs).map stD)) (under_steps _ _)
  simp [m__law_with, mDef, eb, fin]
end

end My
namespace My
open PySem hiding Tree
open AB L2
open R
class IsPl (C : Str) : Prop where
  mem : C ∈ [("Plan" : Str), ("RawPlan" : Str)]
noncomputable instance : IsPl ("Plan" : Str) := ⟨List.mem_cons_self⟩
noncomputable instance : IsPl ("RawPlan" : Str) := ⟨List.mem_cons_of_mem _ List.mem_cons_self⟩
noncomputable def Bare (xs : List Stp) : Prop := ∀ x ∈ xs, isBar x = false
theorem cut_mid {α : Type} (f : α → D) (xs : List α) {a b : Nat} (h1 : a ≤ b) : cutD (xs.map f) (some (a : Int)) (some (b : Int)) = ((xs.take b).drop a).map f := by
  unfold cutD
  have e : HT.sIx (xs.map f).length 0 (some (a : Int)) = min a (xs.map f).length := HT.sIx_nat _ _ a
  have e2 : HT.sIx (xs.map f).length (xs.map f).length (some (b : Int)) = min b (xs.map f).length := HT.sIx_nat _ _ b
  rw [e, e2, List.length_map, ← List.map_drop, ← List.map_take, List.drop_take]
  congr 1
  rcases Nat.le_total a xs.length with q | q
  · rw [Nat.min_eq_left q]
    rcases Nat.le_total b xs.length with q2 | q2
    · rw [Nat.min_eq_left q2]
    · rw [Nat.min_eq_right q2, List.take_of_length_le (by rw [List.length_drop]; omega), List.take_of_length_le (by rw [List.length_drop]; omega)]
  · rw [Nat.min_eq_right q, List.drop_eq_nil_of_le (Nat.le_refl _), List.drop_eq_nil_of_le q]
    simp
theorem und_app (a b : List Stp) : und (a ++ b) = und a + und b := by
  unfold und
  rw [List.foldl_append]
  have key : ∀ (b : List Stp) (z : Int), b.foldl (fun u x => u + x.lift) z = z + b.foldl (fun u x => u + x.lift) 0 := by
    intro b
    induction b with
    | nil => intro z; simp
    | cons x b ih =>
      intro z
      rw [List.foldl_cons, List.foldl_cons, ih (z + x.lift), ih (0 + x.lift)]
      omega
  exact key b _
theorem bare_take : ∀ (xs : List Stp) (k : Nat), ∃ j, (bareL xs).take k = bareL (xs.take j)
  | [], k => ⟨0, by simp [bareL]⟩
  | x :: xs, 0 => ⟨0, by simp [bareL]⟩
  | x :: xs, k + 1 => by
    cases hx : isBar x with
    | true =>
      obtain ⟨j, e⟩ := bare_take xs (k + 1)
      refine ⟨j + 1, ?_⟩
      have e1 : bareL (x :: xs) = bareL xs := by unfold bareL; rw [List.filter_cons, hx]; rfl
      have e2 : bareL ((x :: xs).take (j + 1)) = bareL (xs.take j) := by rw [List.take_succ_cons]; unfold bareL; rw [List.filter_cons, hx]; rfl
      rw [e1, e2, e]
    | false =>
      obtain ⟨j, e⟩ := bare_take xs k
      refine ⟨j + 1, ?_⟩
      have e1 : bareL (x :: xs) = x :: bareL xs := by unfold bareL; rw [List.filter_cons, hx]; rfl
      have e2 : bareL ((x :: xs).take (j + 1)) = x :: bareL (xs.take j) := by rw [List.take_succ_cons]; unfold bareL; rw [List.filter_cons, hx]; rfl
      rw [e1, e2, List.take_succ_cons, e]
theorem und_bare : ∀ xs : List Stp, und (bareL xs) = und xs
  | [] => rfl
  | x :: xs => by
    have e0 : und (x :: xs) = x.lift + und xs := by
      have := und_app [x] xs
      have h1 : und [x] = x.lift := by unfold und; simp
      rw [h1] at this
      exact this
    cases hx : isBar x with
    | true =>
      have e1 : bareL (x :: xs) = bareL xs := by unfold bareL; rw [List.filter_cons, hx]; rfl
      have hl : x.lift = 0 := by cases x <;> first | rfl | cases hx
      rw [e1, e0, hl, und_bare xs]
      omega
    | false =>
      have e1 : bareL (x :: xs) = x :: bareL xs := by unfold bareL; rw [List.filter_cons, hx]; rfl
      have e2 : und (x :: bareL xs) = x.lift + und (bareL xs) := by
        have := und_app [x] (bareL xs)
        have h1 : und [x] = x.lift := by unfold und; simp
        rw [h1] at this
        exact this
      rw [e1, e0, e2, und_bare xs]
theorem plan_bare {n : Nat} {K : List (Option Val)} {xs : List Stp} (p : PlanOk n K xs) (k : Nat) : PlanOk n K ((bareL xs).take k) := by
  have few := p.few
  refine ⟨p.n1, p.n2, p.len, p.hk, p.nn, ?_, fun x hx => p.st x (List.mem_filter.mp (List.mem_of_mem_take hx)).1, fun i => ?_⟩
  · have h1 : ((bareL xs).take k).length ≤ (bareL xs).length := by rw [List.length_take]; omega
    have h2 : (bareL xs).length ≤ xs.length := List.length_filter_le _ _
    omega
  · rw [List.take_take]
    obtain ⟨j, e⟩ := bare_take xs (min i k)
    rw [e, und_bare]
    exact p.pre j
theorem bare_bare {bs : List Stp} (hb : Bare bs) : bareL bs = bs := by
  unfold bareL
  rw [List.filter_eq_self]
  intro x hx
  rw [hb x hx]
  rfl
theorem bare_with {bs : List Stp} (hb : Bare bs) (lot : List Nat) : bareL (withL lot bs) = bs := by
  have key : ∀ m, bareL (preW lot bs m) = bs.take m := by
    intro m
    induction m with
    | zero => rfl
    | succ m ih =>
      show bareL (preW lot bs m ++ (putB lot m ++ (bs[m]?).toList)) = _
      have e1 : bareL (putB lot m) = [] := by unfold putB; split <;> rfl
      have e2 : bareL ((bs[m]?).toList) = (bs[m]?).toList := bare_bare fun x hx => by
        cases e : bs[m]? with
        | none => rw [e] at hx; cases hx
        | some y =>
          rw [e] at hx
          rw [List.mem_singleton.mp hx]
          exact hb y (List.mem_of_getElem? e)
      unfold bareL at ih e1 e2 ⊢
      rw [List.filter_append, List.filter_append, ih, e1, e2, take_snoc]
      rfl
  unfold withL
  rw [key, List.take_of_length_le (by omega)]
section
variable {hh : AH} {bs : List Stp}
noncomputable def wbX : Ms := sExpr (mBM fExtT (mV 3) (aCons (mSl (mV 2) (oSome (mV 4)) (oSome (mOp2 fAdd (mV 4) (mC (.int 1))))) aNil))
theorem wbX_ok {m : Nat} {g0 g1 : Option D} {X : List Stp} (hl : X.length < 1000) :
    wbX [g0, g1, some (.tup (bs.map stD)), some (.loc hh.length), some (.int (m : Int))] (hh ++ AO.lst (X.map stD) :: []) = .next [g0, g1, some (.tup (bs.map stD)), some (.loc hh.length), some (.int (m : Int))] (hh ++ AO.lst ((X ++ (bs[m]?).toList).map stD) :: []) := by
  have e1 : (m : Int) + 1 = ((m + 1 : Nat) : Int) := by omega
  have ed : (bs.take (m + 1)).drop m = (bs[m]?).toList := by
    rw [List.take_succ]
    rcases Nat.lt_or_ge m bs.length with c | c
    · rw [List.drop_append_of_le_length (by rw [List.length_take]; omega), List.drop_eq_nil_of_le (by rw [List.length_take]; omega)]
      rfl
    · have : bs[m]? = none := List.getElem?_eq_none_iff.mpr c
      rw [this]
      simp
  have hl2 : ((bs[m]?).toList).length ≤ 1 := by cases bs[m]? <;> simp
  have lb : (X.map stD).length + (((bs[m]?).toList).map stD).length ≤ big := by rw [List.length_map, List.length_map, big_eq]; omega
  have ex : fExtT (.loc hh.length) [.tup (((bs[m]?).toList).map stD)] (hh ++ AO.lst (X.map stD) :: []) = .ok .non (hh ++ AO.lst ((X ++ (bs[m]?).toList).map stD) :: []) := by
    unfold fExtT
    simp only [get_mid, lb, if_true, set_mid]
    rw [List.map_append]
  unfold wbX
  simp only [v_sExpr, v_mBM, v_mV, List.getElem?_cons_succ, List.getElem?_cons_zero, Res.bind_ok, v_vLo, get_mid, v_aCons, v_aNil, v_mSlT, v_oSome, v_mOp2, v_mC, v_add, e1, cut_mid _ _ (Nat.le_succ m), ed, ex, Res.toS_ok]
end
theorem asc_zip : ∀ {L : List Nat}, Asc L → ∀ p ∈ L.zip (L.drop 1), p.1 < p.2
  | [], _, p, hp => by simp at hp
  | [_], _, p, hp => by simp at hp
  | w :: x :: r, hA, p, hp => by
    rw [List.drop_succ_cons, List.drop_zero, List.zip_cons_cons] at hp
    rcases List.mem_cons.mp hp with rfl | hp
    · exact (List.pairwise_cons.mp hA).1 x List.mem_cons_self
    · exact asc_zip (L := x :: r) (List.pairwise_cons.mp hA).2 p (by simpa using hp)
theorem check_places_ok {h : AH} {nP n : Nat} {K : List (Option Val)} {xs : List Stp} {C : Str} [IsPl C] (gP : h[nP]? = some (.ins C (planF K xs))) (hl : xs.length ≤ 1000) {L : List Nat} (hA : Asc L) (hL : ∀ q ∈ L, q ≤ (bareL xs).length) (hLl : L.length ≤ 1000) : m_check_places [.loc nP, .tup (L.map nD)] h = .ok .non h := by
  have eb := bare_steps_ok IsPl.mem gP hl
  have hlen : fLen [.tup ((bareL xs).map stD)] h = .ok (.int ((bareL xs).length : Int)) h := by simp
  have c2 : (sSet 2 (mOp2 fAdd (mN fLen (aCons (mN m_bare_steps (aCons (mV 0) aNil)) aNil)) (mC (.int 1)))) [some (.loc nP), some (.tup (L.map nD)), none, none, none, none] h = .next [some (.loc nP), some (.tup (L.map nD)), some (.int (((bareL xs).length : Int) + 1)), none, none, none] h := by
    simp only [v_sSet, v_mOp2, v_mN, v_aCons, v_aNil, v_mV, v_mC, List.getElem?_cons_succ, List.getElem?_cons_zero, Res.bind_ok, eb, hlen, v_add, Res.toS_ok]
    rfl
  have h1 : ∀ (all0 : List D), compGo (.nm 3) tYesM (mN m_is_index (aCons (mV 3) (aCons (mV 2) aNil))) none all0 (wipeG [some (.loc nP), some (.tup (L.map nD)), some (.int (((bareL xs).length : Int) + 1)), none, none, none] [3]) (L.map nD) h = .ok (L.map fun _ => .bl true) h :=
    fun all0 => comp_all _ _ _ fun q hq => ⟨[some (.loc nP), some (.tup (L.map nD)), some (.int (((bareL xs).length : Int) + 1)), some (nD q), none, none], rfl, by
      have h1 := hL q hq
      have h2 : decide ((q : Int) ≤ ((bareL xs).length : Int) + 1 - 1) = true := decide_eq_true (by omega)
      have h3 : decide ((0 : Int) ≤ (q : Int)) = true := decide_eq_true (by omega)
      have ei := is_index_ok (h := h) (q : Int) (((bareL xs).length : Int) + 1)
      rw [h2, h3] at ei
      have ei : m_is_index [nD q, .int (((bareL xs).length : Int) + 1)] h = .ok (.bl true) h := ei
      simp only [v_mN, v_aCons, v_aNil, v_mV, List.getElem?_cons_succ, List.getElem?_cons_zero, Res.bind_ok, ei]⟩
  have hz := asc_zip hA
  have h2 : ∀ (all0 : List D), compGo (.tp [(.nm 4), (.nm 5)]) tYesM (mOp2 cGe (mV 4) (mV 5)) none all0 (wipeG [some (.loc nP), some (.tup (L.map nD)), some (.int (((bareL xs).length : Int) + 1)), none, none, none] [4, 5]) (pairsD (L.map nD) (cutD (L.map nD) (some 1) none)) h = .ok ((L.zip (L.drop 1)).map fun _ => .bl false) h := by
    intro all0
    rw [cut_from1, pairsD_map]
    refine comp_all _ _ _ fun p hp => ⟨[some (.loc nP), some (.tup (L.map nD)), some (.int (((bareL xs).length : Int) + 1)), none, some (nD p.1), some (nD p.2)], rfl, ?_⟩
    have h3 := hz p hp
    have h4 : decide ((p.2 : Int) ≤ (p.1 : Int)) = false := decide_eq_false (by omega)
    have ec : cGe (nD p.1) (nD p.2) h = .ok (.bl (decide ((p.2 : Int) ≤ (p.1 : Int)))) h := v_cGe
    simp only [v_mOp2, v_mV, List.getElem?_cons_succ, List.getElem?_cons_zero, Res.bind_ok, ec, h4]
  have lb1 : (L.map nD).length ≤ big := by rw [List.length_map, big_eq]; omega
  have lb2 : (pairsD (L.map nD) (cutD (L.map nD) (some 1) none)).length ≤ big := by
    rw [cut_from1, pairsD_map, big_eq]
    simp
    omega
  have i1 : (iSeq (mV 1)) [some (.loc nP), some (.tup (L.map nD)), some (.int (((bareL xs).length : Int) + 1)), none, none, none] h = .ok (L.map nD, none) h := rfl
  have i2 : (iZip (aCons (mV 1) (aCons (mSl (mV 1) (oSome (mC (.int 1))) oNone) aNil))) [some (.loc nP), some (.tup (L.map nD)), some (.int (((bareL xs).length : Int) + 1)), none, none, none] h = .ok (pairsD (L.map nD) (cutD (L.map nD) (some 1) none), none) h := by
    simp only [v_zip, v_aCons, v_aNil, v_mV, v_mSlT, v_oSome, v_oNone, v_mC, List.getElem?_cons_succ, List.getElem?_cons_zero, Res.bind_ok]
  have a1 : fAll [.lst (L.map fun _ => D.bl true)] h = .ok (.bl true) h := by
    have := v_all (h := h) (fun _ : Nat => true) L
    have e2 : L.all (fun _ : Nat => true) = true := by simp
    rw [e2] at this
    exact this
  have a2 : fAny [.lst ((L.zip (L.drop 1)).map fun _ => D.bl false)] h = .ok (.bl false) h := by
    have := v_any (h := h) (fun _ : Nat × Nat => false) (L.zip (L.drop 1))
    have e2 : (L.zip (L.drop 1)).any (fun _ : Nat × Nat => false) = false := by simp
    rw [e2] at this
    exact this
  have ty : tyDC [] h .tup (.tup (L.map nD)) = some true := rfl
  have ts : Ty.tup.sub .tup = true := rfl
  have eb2 : b_check_places [some (.loc nP), some (.tup (L.map nD)), none, none, none, none] h = .next [some (.loc nP), some (.tup (L.map nD)), some (.int (((bareL xs).length : Int) + 1)), none, none, none] h := by
    unfold b_check_places
    simp only [v_sSeq, c2, SR.andThen_next, v_sIf, v_tOr, v_tNot, v_tOf, v_mIsiC, v_mV, List.getElem?_cons_succ, List.getElem?_cons_zero, Res.bind_ok, v_mN, v_aCons, v_aNil, v_mL, v_lComp, i1, i2, lb1, lb2, if_true, h1, h2, a1, a2, v_truB, ty, ts, Bool.not_true, Bool.false_eq_true, if_false, Res.toS_ok, v_sNil]
  simp [m_check_places, mDef, eb2]
theorem with_barriers_ok {h : AH} {nP n : Nat} {K : List (Option Val)} {xs : List Stp} {C : Str} [IsPl C] (gP : h[nP]? = some (.ins C (planF K xs))) (hl : xs.length ≤ 1000) (hb2 : (bareL xs).length ≤ 200) {L : List Nat} (hA : Asc L) (hL : ∀ q ∈ L, q ≤ (bareL xs).length) (hLl : L.length ≤ 1000) :
    ∃ F T, m_with_barriers [.loc nP, .tup (L.map nD)] h = .ok (.loc F) (h ++ T) ∧ (h ++ T)[F]? = some (.ins "RawPlan" (planF K (withL L (bareL xs)))) := by
  have b0 : (0 : Nat) ≤ big := by decide
  obtain ⟨bs, ebs⟩ : ∃ bs, bs = bareL xs := ⟨_, rfl⟩
  have bl : bs.length ≤ 200 := by rw [ebs]; exact hb2
  have cp := check_places_ok (n := n) gP (by omega) hA hL hLl
  have eb := bare_steps_ok IsPl.mem gP (by omega)
  rw [← ebs] at eb ⊢
  have c1 : (sExpr (mN m_check_places (aCons (mV 0) (aCons (mV 1) aNil)))) [some (.loc nP), some (.tup (L.map nD)), none, none, none] h = .next [some (.loc nP), some (.tup (L.map nD)), none, none, none] h := by
    simp only [v_sExpr, v_mN, v_aCons, v_aNil, v_mV, List.getElem?_cons_succ, List.getElem?_cons_zero, Res.bind_ok, cp, Res.toS_ok]
  have c2 : (sSet 2 (mN m_bare_steps (aCons (mV 0) aNil))) [some (.loc nP), some (.tup (L.map nD)), none, none, none] h = .next [some (.loc nP), some (.tup (L.map nD)), some (.tup (bs.map stD)), none, none] h := by
    simp only [v_sSet, v_mN, v_aCons, v_aNil, v_mV, List.getElem?_cons_succ, List.getElem?_cons_zero, Res.bind_ok, eb, Res.toS_ok]
    rfl
  have c3 : (sSet 3 (mNew (lLst aNil))) [some (.loc nP), some (.tup (L.map nD)), some (.tup (bs.map stD)), none, none] h = .next [some (.loc nP), some (.tup (L.map nD)), some (.tup (bs.map stD)), some (.loc h.length), none] (h ++ AO.lst [] :: []) := by
    simp only [v_sSet, v_mNew, v_lLst, v_aNil, Res.bind_ok, List.length_nil, b0, if_true, Res.toS_ok]
    rfl
  obtain ⟨G', h', c, u4, rfl, rfl⟩ := for_pre (p := .nm 4) (body := sSeq (lwA 3) (sSeq wbX sNil)) (all0 := (List.range (bs.length + 1)).map fun i : Nat => D.int (i : Int))
    (fun done G hh => ∃ u4, G = [some (.loc nP), some (.tup (L.map nD)), some (.tup (bs.map stD)), some (.loc h.length), u4] ∧ hh = h ++ AO.lst ((preW L bs done.length).map stD) :: [])
    (fun i : Nat => D.int (i : Int)) (List.range (bs.length + 1)) (List.range (bs.length + 1)) [] rfl
    (by
      rintro done m rest ed G hh ⟨u4, rfl, rfl⟩
      obtain ⟨e1, e2⟩ := range_split ed
      have pl := preW_len L bs m
      rw [e1]
      have a1 := lwA_ok (hh := h) (i := 3) (m := m) (memT L) (G := [some (.loc nP), some (.tup (L.map nD)), some (.tup (bs.map stD)), some (.loc h.length), some (.int (m : Int))]) rfl rfl rfl (X := preW L bs m) (by omega)
      have a2 := wbX_ok (hh := h) (bs := bs) (m := m) (g0 := some (.loc nP)) (g1 := some (.tup (L.map nD))) (X := preW L bs m ++ putB L m) (by
        rw [List.length_append]
        have h1 : (putB L m).length ≤ 1 := by unfold putB; split <;> simp
        omega)
      refine ⟨[some (.loc nP), some (.tup (L.map nD)), some (.tup (bs.map stD)), some (.loc h.length), some (.int (m : Int))], _, h ++ AO.lst ((preW L bs (m + 1)).map stD) :: [], rfl, ?_, some (.int (m : Int)), rfl, ?_⟩
      · have ep : preW L bs (m + 1) = preW L bs m ++ putB L m ++ (bs[m]?).toList := by
          show preW L bs m ++ (putB L m ++ (bs[m]?).toList) = _
          rw [List.append_assoc]
        rw [ep]
        simp only [v_sSeq, a1, SR.andThen_next, a2, v_sNil]
      · rw [List.length_append, List.length_singleton, e1])
    [some (.loc nP), some (.tup (L.map nD)), some (.tup (bs.map stD)), some (.loc h.length), none] (h ++ AO.lst [] :: []) ⟨none, rfl, rfl⟩
  have ew : preW L bs (List.range (bs.length + 1)).length = withL L bs := by rw [List.length_range]; rfl
  rw [ew] at c
  have ei : (iRange1 (aCons (mOp2 fAdd (mN fLen (aCons (mV 2) aNil)) (mC (.int 1))) aNil)) [some (.loc nP), some (.tup (L.map nD)), some (.tup (bs.map stD)), some (.loc h.length), none] (h ++ AO.lst [] :: []) = .ok ((List.range (bs.length + 1)).map fun i : Nat => D.int (i : Int), none) (h ++ AO.lst [] :: []) := by
    have o1 : okR ((bs.length : Int) + 1) := ⟨by omega, by omega⟩
    have er : rangeD 0 (bs.length + 1) = (List.range (bs.length + 1)).map fun i : Nat => D.int (i : Int) := rangeD_eq _
    have x2 : fLen [D.tup (bs.map stD)] (h ++ AO.lst [] :: []) = .ok (.int (bs.length : Int)) (h ++ AO.lst [] :: []) := by simp
    rw [v_range1]
    simp only [v_aCons, v_aNil, v_mOp2, v_mN, v_mV, v_mC, List.getElem?_cons_succ, List.getElem?_cons_zero, Res.bind_ok, x2, v_add, o1, if_true]
    have : ((bs.length : Int) + 1).toNat = bs.length + 1 := by omega
    rw [this, er]
  obtain ⟨h2, eh2⟩ : ∃ h2, h2 = h ++ AO.lst ((withL L bs).map stD) :: [] := ⟨_, rfl⟩
  have gP2 : h2[nP]? = some (.ins C (planF K xs)) := by rw [eh2, List.getElem?_append_left (lt_of_get gP)]; exact gP
  have gF : h2[h.length]? = some (.lst ((withL L bs).map stD)) := by rw [eh2, get_mid]
  have es := stateC_ok IsPl.mem (G := [some (.loc nP), some (.tup (L.map nD)), some (.tup (bs.map stD)), some (.loc h.length), u4]) (i := 0) rfl gP2
  rw [← eh2] at c
  refine ⟨h2.length, AO.lst ((withL L bs).map stD) :: [AO.ins "RawPlan" (planF K (withL L bs))], ?_, ?_⟩
  · have eb : b_with_barriers [some (.loc nP), some (.tup (L.map nD)), none, none, none] h = .ret (.loc h2.length) (h2 ++ [AO.ins "RawPlan" (planF K (withL L bs))]) := by
      have eq : b_with_barriers = sSeq (sExpr (mN m_check_places (aCons (mV 0) (aCons (mV 1) aNil)))) (sSeq (sSet 2 (mN m_bare_steps (aCons (mV 0) aNil))) (sSeq (sSet 3 (mNew (lLst aNil))) (sSeq (sFor (.nm 4) (iRange1 (aCons (mOp2 fAdd (mN fLen (aCons (mV 2) aNil)) (mC (.int 1))) aNil)) (sSeq (lwA 3) (sSeq wbX sNil))) (sSeq (sRet (mMake "RawPlan" m_RawPlan___init__ (aCons (mFld ["Plan", "RawPlan"] "kept_state" (mV 0)) (aCons (mN fTuple (aCons (mV 3) aNil)) aNil)))) sNil)))) := rfl
      have kr := keepR_ok (h := h2) K (withL L bs)
      rw [eq]
      simp only [v_sSeq, c1, SR.andThen_next, c2, c3, v_sFor, ei, Res.toS_ok, c, v_sRet, v_mMake, v_aCons, v_aNil, es, v_mN, v_mV, List.getElem?_cons_succ, List.getElem?_cons_zero, Res.bind_ok, v_tuple, v_vSo, gF, kr, SR.andThen_ret]
    have ea : h2 ++ [AO.ins "RawPlan" (planF K (withL L bs))] = h ++ AO.lst ((withL L bs).map stD) :: [AO.ins "RawPlan" (planF K (withL L bs))] := by rw [eh2]; simp
    rw [ea] at eb
    simp [m_with_barriers, mDefK, eb]
  · have ea : h ++ AO.lst ((withL L bs).map stD) :: [AO.ins "RawPlan" (planF K (withL L bs))] = h2 ++ [AO.ins "RawPlan" (planF K (withL L bs))] := by rw [eh2]; simp
    rw [ea, g_app0]
    rfl

end My
namespace My
open PySem hiding Tree
open AB L2
open R
section
variable {h : AH}
@[simp] theorem v_sDPutM {h : AH} {G : AB.Env} {o k v : Me} : sDPutM o k v G h = (v G h).toS G fun x h1 => (o G h1).toS G fun d h2 => (k G h2).toS G fun j h3 => match d with
  | .loc n => match h3[n]?, toKey j with
    | some (.dct kvs), some q => if kvs.length < big then .next G (h3.set n (.dct (putKD kvs q x))) else .stuck
    | _, _ => .stuck
  | _ => .stuck := id rfl
end
noncomputable def addK (ks : List Nat) (p : Nat) : List Nat := if p ∈ ks then ks else ks ++ [p]
noncomputable def plS (S : List Nat × Nat) (x : Stp) : List Nat × Nat := if isBar x = true then (addK S.1 S.2, S.2) else (S.1, S.2 + 1)
noncomputable def plF (xs : List Stp) : List Nat × Nat := xs.foldl plS ([], 0)
noncomputable def kvN (ks : List Nat) : KD := ks.map fun k : Nat => ((Sum.inl (k : Int) : L2.Key), D.bl true)
theorem put_kvN (ks : List Nat) (p : Nat) : putKD (kvN ks) (.inl (p : Int)) (.bl true) = kvN (addK ks p) := by
  have hk : ((kvN ks).any fun kv => decide (kv.1 = (Sum.inl (p : Int) : L2.Key))) = decide (p ∈ ks) := by
    unfold kvN
    rw [List.any_map]
    by_cases c : p ∈ ks
    · rw [decide_eq_true c, List.any_eq_true]
      exact ⟨p, c, by simp⟩
    · rw [decide_eq_false c, List.any_eq_false]
      intro k hk z
      have z : (Sum.inl (k : Int) : L2.Key) = Sum.inl (p : Int) := of_decide_eq_true z
      injection z with z
      have : k = p := by omega
      exact c (this ▸ hk)
  unfold putKD addK
  rw [hk]
  by_cases c : p ∈ ks
  · rw [if_pos (decide_eq_true c), if_pos c]
    unfold kvN
    rw [List.map_map]
    refine List.map_congr_left fun k hk => ?_
    show (if (Sum.inl (k : Int) : L2.Key) = Sum.inl (p : Int) then _ else _) = _
    split <;> rfl
  · rw [if_neg (by simp [c]), if_neg c]
    unfold kvN
    rw [List.map_append]
    rfl
theorem addK_mem {ks : List Nat} {p q : Nat} : q ∈ addK ks p ↔ q ∈ ks ∨ q = p := by
  unfold addK
  by_cases c : p ∈ ks
  · rw [if_pos c]
    constructor
    · exact .inl
    · rintro (h | h)
      · exact h
      · rw [h]; exact c
  · rw [if_neg c]
    simp
theorem addK_len (ks : List Nat) (p : Nat) : (addK ks p).length ≤ ks.length + 1 := by
  unfold addK
  split
  · omega
  · simp
theorem plF_snoc (xs : List Stp) (x : Stp) : plF (xs ++ [x]) = plS (plF xs) x := by
  unfold plF
  rw [List.foldl_append]
  rfl
theorem plF_len (xs : List Stp) : (plF xs).1.length ≤ xs.length := by
  have key : ∀ (xs : List Stp) (S : List Nat × Nat), (xs.foldl plS S).1.length ≤ S.1.length + xs.length := by
    intro xs
    induction xs with
    | nil => intro S; simp
    | cons x xs ih =>
      intro S
      have := ih (plS S x)
      rw [List.foldl_cons, List.length_cons]
      have h2 : (plS S x).1.length ≤ S.1.length + 1 := by
        unfold plS
        split
        · exact addK_len _ _
        · show S.1.length ≤ S.1.length + 1
          omega
      omega
  have := key xs ([], 0)
  unfold plF
  have h0 : (([], 0) : List Nat × Nat).1.length = 0 := rfl
  omega
theorem plF_app (a b : List Stp) : plF (a ++ b) = b.foldl plS (plF a) := by
  unfold plF
  rw [List.foldl_append]
theorem plF_preW {ys : List Nat} {bs : List Stp} (hb : Bare bs) : ∀ m, m ≤ bs.length → (plF (preW ys bs m)).2 = m ∧ ∀ q, q ∈ (plF (preW ys bs m)).1 ↔ q ∈ ys ∧ q < m
  | 0, _ => ⟨rfl, fun q => ⟨fun h => (by cases h), fun h => (by omega)⟩⟩
  | m + 1, hm => by
    obtain ⟨h1, h2⟩ := plF_preW (ys := ys) hb m (by omega)
    obtain ⟨x, hx⟩ : ∃ x, bs[m]? = some x := ⟨bs[m], List.getElem?_eq_getElem (by omega)⟩
    have nb := hb x (List.mem_of_getElem? hx)
    have e : plF (preW ys bs (m + 1)) = plS ((putB ys m).foldl plS (plF (preW ys bs m))) x := by
      show plF (preW ys bs m ++ (putB ys m ++ (bs[m]?).toList)) = _
      rw [plF_app, hx, List.foldl_append]
      rfl
    rw [e]
    unfold putB
    by_cases c : m ∈ ys
    · rw [if_pos c]
      have e2 : [Stp.bar].foldl plS (plF (preW ys bs m)) = (addK (plF (preW ys bs m)).1 m, m) := by
        show plS (plF (preW ys bs m)) .bar = _
        unfold plS
        have eb : isBar .bar = true := rfl
        rw [if_pos eb, h1]
      rw [e2]
      unfold plS
      rw [nb, if_neg (by decide)]
      refine ⟨rfl, fun q => ?_⟩
      show q ∈ addK _ m ↔ _
      rw [addK_mem, h2]
      constructor
      · rintro (⟨h3, h4⟩ | h3)
        · exact ⟨h3, by omega⟩
        · rw [h3]; exact ⟨c, by omega⟩
      · rintro ⟨h3, h4⟩
        by_cases c2 : q = m
        · exact .inr c2
        · exact .inl ⟨h3, by omega⟩
    · rw [if_neg c]
      show (plS (plF (preW ys bs m)) x).2 = _ ∧ ∀ q, q ∈ (plS (plF (preW ys bs m)) x).1 ↔ _
      unfold plS
      rw [nb, if_neg (by decide)]
      refine ⟨by show _ + 1 = _; rw [h1], fun q => ?_⟩
      show q ∈ (plF (preW ys bs m)).1 ↔ _
      rw [h2]
      constructor
      · rintro ⟨h3, h4⟩
        exact ⟨h3, by omega⟩
      · rintro ⟨h3, h4⟩
        refine ⟨h3, ?_⟩
        have : q ≠ m := fun z => c (z ▸ h3)
        omega
theorem plF_with {ys : List Nat} {bs : List Stp} (hb : Bare bs) (q : Nat) : q ∈ (plF (withL ys bs)).1 ↔ q ∈ ys ∧ q ≤ bs.length := by
  obtain ⟨h1, h2⟩ := plF_preW (ys := ys) hb bs.length (Nat.le_refl _)
  have hn : bs[bs.length]? = none := List.getElem?_eq_none_iff.mpr (Nat.le_refl _)
  have e : plF (withL ys bs) = (putB ys bs.length).foldl plS (plF (preW ys bs bs.length)) := by
    show plF (preW ys bs bs.length ++ (putB ys bs.length ++ (bs[bs.length]?).toList)) = _
    rw [plF_app, hn, List.foldl_append]
    rfl
  rw [e]
  unfold putB
  by_cases c : bs.length ∈ ys
  · rw [if_pos c]
    have e2 : [Stp.bar].foldl plS (plF (preW ys bs bs.length)) = (addK (plF (preW ys bs bs.length)).1 bs.length, bs.length) := by
      show plS (plF (preW ys bs bs.length)) .bar = _
      unfold plS
      have eb : isBar .bar = true := rfl
      rw [if_pos eb, h1]
    rw [e2]
    show q ∈ addK _ _ ↔ _
    rw [addK_mem, h2]
    constructor
    · rintro (⟨h3, h4⟩ | h3)
      · exact ⟨h3, by omega⟩
      · rw [h3]; exact ⟨c, Nat.le_refl _⟩
    · rintro ⟨h3, h4⟩
      by_cases c2 : q = bs.length
      · exact .inr c2
      · exact .inl ⟨h3, by omega⟩
  · rw [if_neg c]
    show q ∈ (plF (preW ys bs bs.length)).1 ↔ _
    rw [h2]
    constructor
    · rintro ⟨h3, h4⟩
      exact ⟨h3, by omega⟩
    · rintro ⟨h3, h4⟩
      refine ⟨h3, ?_⟩
      have : q ≠ bs.length := fun z => c (z ▸ h3)
      omega
noncomputable def srtN (ks : List Nat) : List Nat := (sortI (ks.map fun k : Nat => (k : Int))).map Int.toNat
theorem srtN_D (ks : List Nat) : (sortI (ks.map fun k : Nat => (k : Int))).map D.int = (srtN ks).map nD := by
  unfold srtN
  rw [List.map_map]
  refine List.map_congr_left fun i hi => ?_
  have hi : i ∈ ks.map fun k : Nat => (k : Int) := (List.mergeSort_perm _ _).mem_iff.mp hi
  obtain ⟨k, _, rfl⟩ := List.mem_map.mp hi
  rfl
theorem keys_kvN : ∀ ks : List Nat, intKeys (kvN ks) = some (ks.map fun k : Nat => (k : Int))
  | [] => rfl
  | k :: ks => by
    show (intKeys (kvN ks)).map ((k : Int) :: ·) = _
    rw [keys_kvN ks]
    rfl
noncomputable def plB : Ms := sSeq (sIf (tBl (mOp2 fEq (mOp2 fIx (mV 3) (mC (.int 0))) (mC (.str "barrier")))) (sSeq (sDPutM (mV 1) (mV 2) (mC (.bl true))) sNil) (sSeq (sAug (fun i j => i + j) 2 (mC (.int 1))) sNil)) sNil
theorem places_ok {h : AH} {nP : Nat} {K : List (Option Val)} {xs : List Stp} {C : Str} [IsPl C] (gP : h[nP]? = some (.ins C (planF K xs))) (hl : xs.length ≤ 1000) : m_places_of [.loc nP] h = .ok (.tup ((srtN (plF xs).1).map nD)) h := by
  obtain ⟨G', h', c, u3, rfl, rfl⟩ := for_pre (p := .nm 3) (body := plB) (all0 := xs.map stD)
    (fun done G hh => ∃ u3, G = [some (.loc nP), some (.loc h.length), some (.int ((plF done).2 : Int)), u3] ∧ hh = h ++ AO.dct (kvN (plF done).1) :: [])
    stD xs xs [] rfl
    (by
      rintro done x rest ed G hh ⟨u3, rfl, rfl⟩
      have dl : done.length ≤ 1000 := by
        have := congrArg List.length ed
        rw [List.length_append, List.length_cons] at this
        omega
      have kl := plF_len done
      have lb : (kvN (plF done).1).length < big := by unfold kvN; rw [List.length_map, big_eq]; omega
      have ib := is_bar (h := h ++ AO.dct (kvN (plF done).1) :: []) x
      have ec : (tBl (mOp2 fEq (mOp2 fIx (mV 3) (mC (.int 0))) (mC (.str "barrier")))) [some (.loc nP), some (.loc h.length), some (.int ((plF done).2 : Int)), some (stD x)] (h ++ AO.dct (kvN (plF done).1) :: []) = .ok (isBar x) (h ++ AO.dct (kvN (plF done).1) :: []) := by
        simp only [v_tBl, v_mOp2, v_mV, v_mC, List.getElem?_cons_succ, List.getElem?_cons_zero, Res.bind_ok, stD_0, ib]
      refine ⟨[some (.loc nP), some (.loc h.length), some (.int ((plF done).2 : Int)), some (stD x)], [some (.loc nP), some (.loc h.length), some (.int ((plF (done ++ [x])).2 : Int)), some (stD x)], h ++ AO.dct (kvN (plF (done ++ [x])).1) :: [], rfl, ?_, some (stD x), rfl, rfl⟩
      rw [plF_snoc]
      unfold plB plS
      cases cx : isBar x with
      | true =>
        rw [cx] at ec
        have ep := put_kvN (plF done).1 (plF done).2
        rw [if_pos rfl]
        simp only [v_sSeq, v_sIf, ec, Res.toS_ok, if_true, v_sDPutM, v_mC, v_mV, List.getElem?_cons_succ, List.getElem?_cons_zero, get_mid, v_keyI, lb, ep, set_mid, SR.andThen_next, v_sNil]
      | false =>
        rw [cx] at ec
        rw [if_neg (by decide)]
        simp only [v_sSeq, v_sIf, ec, Res.toS_ok, Bool.false_eq_true, if_false, v_sAug, v_mC, List.getElem?_cons_succ, List.getElem?_cons_zero, SR.andThen_next, v_sNil, List.set_cons_succ, List.set_cons_zero]
        rfl)
    [some (.loc nP), some (.loc h.length), some (.int 0), none] (h ++ AO.dct [] :: []) ⟨none, rfl, rfl⟩
  have gP1 : (h ++ AO.dct [] :: [])[nP]? = some (.ins C (planF K xs)) := by rw [List.getElem?_append_left (lt_of_get gP)]; exact gP
  have es := stepsC_ok IsPl.mem (G := [some (.loc nP), some (.loc h.length), some (.int 0), none]) (i := 0) rfl gP1
  have ei : (iSeq (mFld ["Plan", "RawPlan"] "kept_steps" (mV 0))) [some (.loc nP), some (.loc h.length), some (.int 0), none] (h ++ AO.dct [] :: []) = .ok (xs.map stD, none) (h ++ AO.dct [] :: []) := by
    rw [v_iSeq, es]
    rfl
  have kl := plF_len xs
  have fs : fSortB [.loc h.length] (h ++ AO.dct (kvN (plF xs).1) :: []) = .ok ((srtN (plF xs).1).map nD) (h ++ AO.dct (kvN (plF xs).1) :: []) := by
    have hd : dctAt (h ++ AO.dct (kvN (plF xs).1) :: []) h.length = some (kvN (plF xs).1) := by
      unfold dctAt
      rw [get_mid]
    unfold fSortB
    simp only [hd, keys_kvN]
    rw [if_pos (by rw [List.length_map]; omega), srtN_D]
  have eb : b_places_of [some (.loc nP), none, none, none] h = .ret (.tup ((srtN (plF xs).1).map nD)) (h ++ AO.dct (kvN (plF xs).1) :: []) := by
    have eq : b_places_of = sSeq (sSet 1 mDNew) (sSeq (sSet 2 (mC (.int 0))) (sSeq (sFor (.nm 3) (iSeq (mFld ["Plan", "RawPlan"] "kept_steps" (mV 0))) plB) (sSeq (sRet (mN fTuple (aCons (mL (lN fSortB (aCons (mV 1) aNil))) aNil))) sNil))) := rfl
    rw [eq]
    simp only [v_sSeq, v_sSet, v_mDNew, v_mC, Res.toS_ok, List.set_cons_succ, List.set_cons_zero, SR.andThen_next, v_sFor, ei, c, v_sRet, v_mN, v_aCons, v_aNil, v_mL, v_lN, v_mV, List.getElem?_cons_succ, List.getElem?_cons_zero, Res.bind_ok, fs, v_tuple, v_vSl, SR.andThen_ret]
  have fin := finD_app h (AO.dct (kvN (plF xs).1) :: []) (.tup ((srtN (plF xs).1).map nD)) (by
    simp only [D.under]
    exact under_ns _ _)
  simp [m_places_of, mDef, eb, fin]
theorem pl_ok {h : AH} {nP : Nat} {K : List (Option Val)} {xs : List Stp} {C : Str} [IsPl C] (gP : h[nP]? = some (.ins C (planF K xs))) (hl : xs.length ≤ 1000) : m_places [.loc nP] h = .ok (.tup ((srtN (plF xs).1).map nD)) h := by
  have e := places_ok gP hl
  have eb : b_places [some (.loc nP)] h = .ret (.tup ((srtN (plF xs).1).map nD)) h := by
    unfold b_places
    simp only [v_sSeq, v_sRet, v_mN, v_aCons, v_aNil, v_mV, List.getElem?_cons_zero, Res.bind_ok, e, Res.toS_ok, SR.andThen_ret]
  simp [m_places, mDef, eb]

end My
/-! bare of any plan; parts that are equal; == by own __eq__ -/
namespace My
open PySem hiding Tree
open AB L2
open R
noncomputable def spP : Stp → PyData
  | .wr s v => .tuple [.str "write", .int (s : Int), vP v]
  | .bar => .tuple [.str "barrier"]
  | .beg => .tuple [.str "begin"]
  | .don => .tuple [.str "done"]
theorem toP_sp (x : Stp) : toP (stD x) = some (spP x) := by
  cases x with
  | wr s v =>
    have e := toP_v v
    show toP (.tup [.str "write", .int (s : Int), vD v]) = _
    exact toP_tup (toPs_cons rfl (toPs_cons rfl (toPs_cons e rfl)))
  | bar => rfl
  | beg => rfl
  | don => rfl
theorem ok_wr : PySem.PyData.strOk "write" = true := by decide +kernel
theorem ok_bar : PySem.PyData.strOk "barrier" = true := by decide +kernel
theorem ok_beg : PySem.PyData.strOk "begin" = true := by decide +kernel
theorem ok_don : PySem.PyData.strOk "done" = true := by decide +kernel
theorem lay_sp (x : Stp) : PyData.canLay0 (spP x) = true := by
  cases x <;> simp [spP, PyData.canLay0, PyData.canLayAll0, lay_v, ok_wr, ok_bar, ok_beg, ok_don]
theorem dep_sp (x : Stp) : PyData.depth (spP x) ≤ 2 := by
  cases x <;> simp [spP, PyData.depth, PyData.depthAll, dep_v]
theorem lay_sps : ∀ xs : List Stp, PyData.canLayAll0 (xs.map spP) = true
  | [] => rfl
  | x :: xs => by
    show (PyData.canLay0 (spP x) && PyData.canLayAll0 (xs.map spP)) = true
    rw [lay_sp, lay_sps xs]
    rfl
theorem dep_sps : ∀ xs : List Stp, PyData.depthAll (xs.map spP) ≤ 2
  | [] => by decide
  | x :: xs => by
    show max (PyData.depth (spP x)) (PyData.depthAll (xs.map spP)) ≤ 2
    have := dep_sp x
    have := dep_sps xs
    omega
theorem toPs_sps (xs : List Stp) : toPs (xs.map stD) = some (xs.map spP) := toPs_gen stD spP toP_sp xs
/-- of what == tells of a thing and itself -/
structure Da (d : D) (p : PyData) : Prop where
  h : ∀ h : AH, toPh h d = some p
  l : PyData.canLay0 p = true
  d : PyData.depth p ≤ 60
variable {h : AH}
theorem Da.okP {d : D} {p : PyData} (w : Da d p) : okP h d = some p := by
  unfold AB.okP
  rw [w.h h]
  exact if_pos (by unfold SeqAt.shaped; rw [w.l, Bool.true_and]; exact decide_eq_true (by have := w.d; omega))
theorem Da.eq {d : D} {p : PyData} (w : Da d p) : fEq d d h = .ok (.bl true) h := by
  unfold fEq
  rw [w.okP]
  simp only [PySem.SeqAt.eqv_refl p w.l]
theorem Da.ne {d : D} {p : PyData} (w : Da d p) : fNe d d h = .ok (.bl false) h := by
  unfold fNe
  rw [w.okP]
  simp only [PySem.SeqAt.eqv_refl p w.l]
  rfl
theorem da_steps (xs : List Stp) : Da (.tup (xs.map stD)) (.tuple (xs.map spP)) where
  h := fun h => toP_tup (toPs_sps xs)
  l := by simp only [PyData.canLay0]; exact lay_sps xs
  d := by
    have := dep_sps xs
    simp only [PyData.depth]
    omega
theorem da_state (K : List (Option Val)) : Da (.tup (K.map hvD)) (.tuple (K.map hvP)) where
  h := fun h => toP_tup (toPs_hv K)
  l := by simp only [PyData.canLay0]; exact lay_hvs K
  d := by
    have := dep_hvs K
    simp only [PyData.depth]
    omega
theorem da_ns (L : List Nat) : Da (.tup (L.map nD)) (.tuple (L.map fun q : Nat => PyData.int (q : Int))) where
  h := fun h => toP_tup (toPs_n L)
  l := by simp only [PyData.canLay0]; exact lay_n L
  d := by
    have := dep_n L
    simp only [PyData.depth]
    omega
theorem da_parts (K : List (Option Val)) (xs : List Stp) : Da (.tup [.tup (K.map hvD), .tup (xs.map stD)]) (.tuple [.tuple (K.map hvP), .tuple (xs.map spP)]) where
  h := fun h => toP_tup (toPs_cons (toP_tup (toPs_hv K)) (toPs_cons (toP_tup (toPs_sps xs)) rfl))
  l := by simp [PyData.canLay0, PyData.canLayAll0, lay_sps, lay_hvs]
  d := by
    have := dep_sps xs
    have := dep_hvs K
    simp only [PyData.depth, PyData.depthAll]
    omega
section
variable {C C2 : Str} {nP mP : Nat} {K : List (Option Val)} {xs : List Stp} {G : AB.Env}
theorem bareG_ok [IsPl C] (gP : h[nP]? = some (.ins C (planF K xs))) (hl : xs.length ≤ 1000) : m_bare [.loc nP] h = .ok (.loc h.length) (h ++ [AO.ins "RawPlan" (planF K (bareL xs))]) := by
  have e1 := stateC_ok IsPl.mem (G := [some (.loc nP)]) (i := 0) rfl gP
  have e2 := bare_steps_ok IsPl.mem gP hl
  have eb : b_bare [some (.loc nP)] h = .ret (.loc h.length) (h ++ [AO.ins "RawPlan" (planF K (bareL xs))]) := by
    unfold b_bare
    simp only [v_sSeq, v_sRet, v_mMake, v_aCons, v_aNil, e1, v_mN, v_mV, List.getElem?_cons_zero, Res.bind_ok, e2, keepR_ok, Res.toS_ok, SR.andThen_ret]
  simp [m_bare, mDefK, eb]
theorem parts_ok [IsPl C] (gP : h[nP]? = some (.ins C (planF K xs))) : m_Plan_parts [.loc nP] h = .ok (.tup [.tup (K.map hvD), .tup (xs.map stD)]) h := by
  have e1 := stateC_ok IsPl.mem (G := [some (.loc nP)]) (i := 0) rfl gP
  have e2 := stepsC_ok IsPl.mem (G := [some (.loc nP)]) (i := 0) rfl gP
  have b2 : (2 : Nat) ≤ big := by decide
  have eb : b_Plan_parts [some (.loc nP)] h = .ret (.tup [.tup (K.map hvD), .tup (xs.map stD)]) h := by
    unfold b_Plan_parts
    simp only [v_sSeq, v_sRet, v_mN, v_aCons, v_aNil, e1, e2, Res.bind_ok, v_fTup, List.length_cons, List.length_nil, Nat.zero_add, Nat.reduceAdd, b2, if_true, Res.toS_ok, SR.andThen_ret]
  simp [m_Plan_parts, mDefK, eb]
theorem lk_tab {β : Type} [IsPl C] (x : β) : List.lookup C [(("Plan" : Str), x), (("RawPlan" : Str), x)] = some x := by
  have h := IsPl.mem (C := C)
  rcases List.mem_cons.mp h with e | e
  · rw [e]; exact lookup_one
  · rw [List.mem_singleton.mp e]; kernel_rfl
theorem pf_no {f : Str} (h1 : ¬ f = "kept_state") (h2 : ¬ f = "kept_steps") : (planF K xs).lookup f = none := by
  unfold planF
  rw [lookup_ne h1, lookup_ne h2]
  rfl
theorem meth_ok [IsPl C] {fn : Fn} {f : Str} {i : Nat} {d : D} (h1 : ¬ f = "kept_state") (h2 : ¬ f = "kept_steps") (hi : G[i]? = some (some (.loc nP))) (gP : h[nP]? = some (.ins C (planF K xs))) (e : fn [.loc nP] h = .ok d h) :
    (mMeth [("Plan", fn), ("RawPlan", fn)] f (mV i) aNil) G h = .ok d h := by
  simp only [v_mMeth, v_mV, hi, Res.bind_ok, gP, lk_tab, pf_no h1 h2, v_aNil, e]
theorem eqM_ok [IsPl C] [IsPl C2] (gP : h[nP]? = some (.ins C (planF K xs))) (gQ : h[mP]? = some (.ins C2 (planF K xs))) : m_Plan___eq__ [.loc nP, .loc mP] h = .ok (.bl true) h := by
  have p1 : (mMeth [("Plan", m_Plan_parts), ("RawPlan", m_Plan_parts)] "parts" (mV 0) aNil) [some (.loc nP), some (.loc mP)] h = .ok (.tup [.tup (K.map hvD), .tup (xs.map stD)]) h :=
    meth_ok (by decide +kernel) (by decide +kernel) rfl gP (parts_ok gP)
  have p2 : (mMeth [("Plan", m_Plan_parts), ("RawPlan", m_Plan_parts)] "parts" (mV 1) aNil) [some (.loc nP), some (.loc mP)] h = .ok (.tup [.tup (K.map hvD), .tup (xs.map stD)]) h :=
    meth_ok (by decide +kernel) (by decide +kernel) rfl gQ (parts_ok gQ)
  have i1 : (mIsiI [("Plan", true), ("RawPlan", true)] (mV 1)) [some (.loc nP), some (.loc mP)] h = .ok (.bl true) h := by
    simp only [mIsiI, v_mV, List.getElem?_cons_succ, List.getElem?_cons_zero, Res.bind_ok, gQ, lk_tab]
  have eb : b_Plan___eq__ [some (.loc nP), some (.loc mP)] h = .ret (.bl true) h := by
    unfold b_Plan___eq__
    simp only [v_sSeq, v_sRet, v_mAnd, i1, Res.bind_ok, v_truB, if_true, v_mOp2, p1, p2, (da_parts K xs).eq, Res.toS_ok, SR.andThen_ret]
  simp [m_Plan___eq__, mDefK, eb]
theorem neI_ok [IsPl C2] (gP : h[nP]? = some (.ins "RawPlan" (planF K xs))) (gQ : h[mP]? = some (.ins C2 (planF K xs))) :
    fNeI [("RawPlan", m_Plan___eq__)] [("RawPlan", "Plan"), ("RawPlan", "RawPlan")] (.loc nP) (.loc mP) h = .ok (.bl false) h := by
  have hm : (("RawPlan" : Str), C2) ∈ [(("RawPlan" : Str), ("Plan" : Str)), ("RawPlan", "RawPlan")] := by
    rcases List.mem_cons.mp (IsPl.mem (C := C2)) with rfl | z
    · exact List.mem_cons_self
    · rcases List.mem_cons.mp z with rfl | z
      · exact List.mem_cons_of_mem _ List.mem_cons_self
      · cases z
  have lk : List.lookup ("RawPlan" : Str) [(("RawPlan" : Str), m_Plan___eq__)] = some m_Plan___eq__ := lookup_one
  unfold fNeI
  simp only [gP, gQ, hm, if_true, lk, eqM_ok gP gQ]
  rfl
theorem stepsF_ok [IsPl C] (gP : h[nP]? = some (.ins C (planF K xs))) : m_Plan_steps [.loc nP] h = .ok (.tup (xs.map stD)) h := by
  have e2 := stepsC_ok IsPl.mem (G := [some (.loc nP)]) (i := 0) rfl gP
  have eb : b_Plan_steps [some (.loc nP)] h = .ret (.tup (xs.map stD)) h := by
    unfold b_Plan_steps
    simp only [v_sSeq, v_sRet, e2, Res.toS_ok, SR.andThen_ret]
  simp [m_Plan_steps, mDefK, eb]
theorem stateF_ok [IsPl C] (gP : h[nP]? = some (.ins C (planF K xs))) : m_Plan_state [.loc nP] h = .ok (.tup (K.map hvD)) h := by
  have e2 := stateC_ok IsPl.mem (G := [some (.loc nP)]) (i := 0) rfl gP
  have eb : b_Plan_state [some (.loc nP)] h = .ret (.tup (K.map hvD)) h := by
    unfold b_Plan_state
    simp only [v_sSeq, v_sRet, e2, Res.toS_ok, SR.andThen_ret]
  simp [m_Plan_state, mDefK, eb]
theorem stepsMt_ok [IsPl C] {i : Nat} (hi : G[i]? = some (some (.loc nP))) (gP : h[nP]? = some (.ins C (planF K xs))) : (mMeth [("Plan", m_Plan_steps), ("RawPlan", m_Plan_steps)] "steps" (mV i) aNil) G h = .ok (.tup (xs.map stD)) h :=
  meth_ok (by decide +kernel) (by decide +kernel) hi gP (stepsF_ok gP)
theorem stateMt_ok [IsPl C] {i : Nat} (hi : G[i]? = some (some (.loc nP))) (gP : h[nP]? = some (.ins C (planF K xs))) : (mMeth [("Plan", m_Plan_state), ("RawPlan", m_Plan_state)] "state" (mV i) aNil) G h = .ok (.tup (K.map hvD)) h :=
  meth_ok (by decide +kernel) (by decide +kernel) hi gP (stateF_ok gP)
end
end My
/-! what is no lot of places -/
namespace My
open PySem hiding Tree
open AB L2
open R
section
variable {h : AH} {C : Str} {nP : Nat} {K : List (Option Val)} {xs : List Stp}
/-- the head of check_places: many -/
theorem cp_many [IsPl C] (gP : h[nP]? = some (.ins C (planF K xs))) (hl : xs.length ≤ 1000) (d : D) :
    (sSet 2 (mOp2 fAdd (mN fLen (aCons (mN m_bare_steps (aCons (mV 0) aNil)) aNil)) (mC (.int 1)))) [some (.loc nP), some d, none, none, none, none] h = .next [some (.loc nP), some d, some (.int (((bareL xs).length : Int) + 1)), none, none, none] h := by
  have eb := bare_steps_ok IsPl.mem gP hl
  have hlen : fLen [.tup ((bareL xs).map stD)] h = .ok (.int ((bareL xs).length : Int)) h := by simp
  simp only [v_sSet, v_mOp2, v_mN, v_aCons, v_aNil, v_mV, v_mC, List.getElem?_cons_succ, List.getElem?_cons_zero, Res.bind_ok, eb, hlen, v_add, Res.toS_ok]
  rfl
/-- no tuple -/
theorem cp_kind [IsPl C] (gP : h[nP]? = some (.ins C (planF K xs))) (hl : xs.length ≤ 1000) {d : D} (ty : tyDC [] h .tup d = some false) : m_check_places [.loc nP, d] h = .exc "NoPlaces" [] h := by
  have c2 := cp_many gP hl d
  have eb : b_check_places [some (.loc nP), some d, none, none, none, none] h = .exc "NoPlaces" [] [some (.loc nP), some d, some (.int (((bareL xs).length : Int) + 1)), none, none, none] h := by
    unfold b_check_places
    simp only [v_sSeq, c2, SR.andThen_next, v_sIf, v_tOr, v_tNot, v_tOf, v_mIsiC, v_mV, List.getElem?_cons_succ, List.getElem?_cons_zero, Res.bind_ok, ty, v_truB, Bool.not_false, if_true, Res.toS_ok, sRaise, SR.andThen_exc]
  simp [m_check_places, mDef, eb, finX]
/-- a tuple with something out of its bounds -/
theorem cp_item [IsPl C] (gP : h[nP]? = some (.ins C (planF K xs))) (hl : xs.length ≤ 1000) {ds : List D} (f : D → Bool) (hf : ∀ d ∈ ds, m_is_index [d, .int (((bareL xs).length : Int) + 1)] h = .ok (.bl (f d)) h) (hb : ds.length ≤ 1000) (hn : ds.all f = false) :
    m_check_places [.loc nP, .tup ds] h = .exc "NoPlaces" [] h := by
  have c2 := cp_many gP hl (.tup ds)
  have h1 : ∀ (all0 : List D), compGo (.nm 3) tYesM (mN m_is_index (aCons (mV 3) (aCons (mV 2) aNil))) none all0 (wipeG [some (.loc nP), some (.tup ds), some (.int (((bareL xs).length : Int) + 1)), none, none, none] [3]) (ds.map id) h = .ok (ds.map fun d => .bl (f d)) h :=
    fun all0 => comp_all id _ _ fun d hd => ⟨[some (.loc nP), some (.tup ds), some (.int (((bareL xs).length : Int) + 1)), some d, none, none], rfl, by
      simp only [v_mN, v_aCons, v_aNil, v_mV, List.getElem?_cons_succ, List.getElem?_cons_zero, Res.bind_ok, hf d hd]⟩
  rw [List.map_id] at h1
  have lb1 : ds.length ≤ big := by rw [big_eq]; omega
  have i1 : (iSeq (mV 1)) [some (.loc nP), some (.tup ds), some (.int (((bareL xs).length : Int) + 1)), none, none, none] h = .ok (ds, none) h := rfl
  have a1 : fAll [.lst (ds.map fun d => D.bl (f d))] h = .ok (.bl false) h := by
    have := v_all (h := h) f ds
    rw [hn] at this
    exact this
  have ty : tyDC [] h .tup (.tup ds) = some true := rfl
  have eb : b_check_places [some (.loc nP), some (.tup ds), none, none, none, none] h = .exc "NoPlaces" [] [some (.loc nP), some (.tup ds), some (.int (((bareL xs).length : Int) + 1)), none, none, none] h := by
    unfold b_check_places
    simp only [v_sSeq, c2, SR.andThen_next, v_sIf, v_tOr, v_tNot, v_tOf, v_mIsiC, v_mV, List.getElem?_cons_succ, List.getElem?_cons_zero, Res.bind_ok, v_mN, v_aCons, v_aNil, v_mL, v_lComp, i1, lb1, if_true, h1, a1, v_truB, ty, Bool.not_true, Bool.not_false, Bool.false_eq_true, if_false, Res.toS_ok, sRaise, SR.andThen_exc]
  simp [m_check_places, mDef, eb, finX]
/-- right places, not ascending -/
theorem cp_order [IsPl C] (gP : h[nP]? = some (.ins C (planF K xs))) (hl : xs.length ≤ 1000) {L : List Nat} (hA : (L.zip (L.drop 1)).any (fun p => decide (p.2 ≤ p.1)) = true) (hL : ∀ q ∈ L, q ≤ (bareL xs).length) (hLl : L.length ≤ 1000) :
    m_check_places [.loc nP, .tup (L.map nD)] h = .exc "NoPlaces" [] h := by
  have c2 := cp_many gP hl (.tup (L.map nD))
  have h1 : ∀ (all0 : List D), compGo (.nm 3) tYesM (mN m_is_index (aCons (mV 3) (aCons (mV 2) aNil))) none all0 (wipeG [some (.loc nP), some (.tup (L.map nD)), some (.int (((bareL xs).length : Int) + 1)), none, none, none] [3]) (L.map nD) h = .ok (L.map fun _ => .bl true) h :=
    fun all0 => comp_all _ _ _ fun q hq => ⟨[some (.loc nP), some (.tup (L.map nD)), some (.int (((bareL xs).length : Int) + 1)), some (nD q), none, none], rfl, by
      have h1 := hL q hq
      have h2 : decide ((q : Int) ≤ ((bareL xs).length : Int) + 1 - 1) = true := decide_eq_true (by omega)
      have h3 : decide ((0 : Int) ≤ (q : Int)) = true := decide_eq_true (by omega)
      have ei := is_index_ok (h := h) (q : Int) (((bareL xs).length : Int) + 1)
      rw [h2, h3] at ei
      have ei : m_is_index [nD q, .int (((bareL xs).length : Int) + 1)] h = .ok (.bl true) h := ei
      simp only [v_mN, v_aCons, v_aNil, v_mV, List.getElem?_cons_succ, List.getElem?_cons_zero, Res.bind_ok, ei]⟩
  have h2 : ∀ (all0 : List D), compGo (.tp [(.nm 4), (.nm 5)]) tYesM (mOp2 cGe (mV 4) (mV 5)) none all0 (wipeG [some (.loc nP), some (.tup (L.map nD)), some (.int (((bareL xs).length : Int) + 1)), none, none, none] [4, 5]) (pairsD (L.map nD) (cutD (L.map nD) (some 1) none)) h = .ok ((L.zip (L.drop 1)).map fun p => .bl (decide (p.2 ≤ p.1))) h := by
    intro all0
    rw [cut_from1, pairsD_map]
    refine comp_all _ _ _ fun p hp => ⟨[some (.loc nP), some (.tup (L.map nD)), some (.int (((bareL xs).length : Int) + 1)), none, some (nD p.1), some (nD p.2)], rfl, ?_⟩
    have ec : cGe (nD p.1) (nD p.2) h = .ok (.bl (decide ((p.2 : Int) ≤ (p.1 : Int)))) h := v_cGe
    rw [cmp_le] at ec
    simp only [v_mOp2, v_mV, List.getElem?_cons_succ, List.getElem?_cons_zero, Res.bind_ok, ec]
  have lb1 : (L.map nD).length ≤ big := by rw [List.length_map, big_eq]; omega
  have lb2 : (pairsD (L.map nD) (cutD (L.map nD) (some 1) none)).length ≤ big := by
    rw [cut_from1, pairsD_map, big_eq]
    simp
    omega
  have i1 : (iSeq (mV 1)) [some (.loc nP), some (.tup (L.map nD)), some (.int (((bareL xs).length : Int) + 1)), none, none, none] h = .ok (L.map nD, none) h := rfl
  have i2 : (iZip (aCons (mV 1) (aCons (mSl (mV 1) (oSome (mC (.int 1))) oNone) aNil))) [some (.loc nP), some (.tup (L.map nD)), some (.int (((bareL xs).length : Int) + 1)), none, none, none] h = .ok (pairsD (L.map nD) (cutD (L.map nD) (some 1) none), none) h := by
    simp only [v_zip, v_aCons, v_aNil, v_mV, v_mSlT, v_oSome, v_oNone, v_mC, List.getElem?_cons_succ, List.getElem?_cons_zero, Res.bind_ok]
  have a1 : fAll [.lst (L.map fun _ => D.bl true)] h = .ok (.bl true) h := by
    have := v_all (h := h) (fun _ : Nat => true) L
    have e2 : L.all (fun _ : Nat => true) = true := by simp
    rw [e2] at this
    exact this
  have a2 : fAny [.lst ((L.zip (L.drop 1)).map fun p => D.bl (decide (p.2 ≤ p.1)))] h = .ok (.bl true) h := by
    have := v_any (h := h) (fun p : Nat × Nat => decide (p.2 ≤ p.1)) (L.zip (L.drop 1))
    rw [hA] at this
    exact this
  have ty : tyDC [] h .tup (.tup (L.map nD)) = some true := rfl
  have eb : b_check_places [some (.loc nP), some (.tup (L.map nD)), none, none, none, none] h = .exc "NoPlaces" [] [some (.loc nP), some (.tup (L.map nD)), some (.int (((bareL xs).length : Int) + 1)), none, none, none] h := by
    unfold b_check_places
    simp only [v_sSeq, c2, SR.andThen_next, v_sIf, v_tOr, v_tNot, v_tOf, v_mIsiC, v_mV, List.getElem?_cons_succ, List.getElem?_cons_zero, Res.bind_ok, v_mN, v_aCons, v_aNil, v_mL, v_lComp, i1, i2, lb1, lb2, if_true, h1, h2, a1, a2, v_truB, ty, Bool.not_true, Bool.false_eq_true, if_false, Res.toS_ok, v_sNil, SR.andThen_next, sRaise, SR.andThen_exc]
  simp [m_check_places, mDef, eb, finX]
/-- what the law is told then -/
theorem told_none [IsPl C] (gP : h[nP]? = some (.ins C (planF K xs))) {d : D} (e : m_check_places [.loc nP, d] h = .exc "NoPlaces" [] h) : m__law_told [.loc nP, d] h = .ok (.str "none") h := by
  have c1 : (sExpr (mN m_check_places (aCons (mV 0) (aCons (mV 1) aNil)))) [some (.loc nP), some d, none, none, none] h = .exc "NoPlaces" [] [some (.loc nP), some d, none, none, none] h := by
    simp only [v_sExpr, v_mN, v_aCons, v_aNil, v_mV, List.getElem?_cons_succ, List.getElem?_cons_zero, Res.bind_ok, e, Res.toS]
  have ew : b_with_barriers [some (.loc nP), some d, none, none, none] h = .exc "NoPlaces" [] [some (.loc nP), some d, none, none, none] h := by
    unfold b_with_barriers
    simp only [v_sSeq, c1, SR.andThen_exc]
  have em : m_with_barriers [.loc nP, d] h = .exc "NoPlaces" [] h := by simp [m_with_barriers, mDefK, ew]
  have lk : List.lookup ("NoPlaces" : Str) [(("NoPlaces" : Str), some (sSeq (sSet 2 (mC (.str "none"))) sNil))] = some (some (sSeq (sSet 2 (mC (.str "none"))) sNil)) := lookup_one
  have eb : b__law_told [some (.loc nP), some d, none] h = .ret (.str "none") h := by
    unfold b__law_told sTryO
    simp only [v_sSeq, v_sSet, v_mC, Res.toS_ok, List.set_cons_succ, List.set_cons_zero, SR.andThen_next, v_mMeth, v_mN, v_aCons, v_aNil, v_mV, List.getElem?_cons_succ, List.getElem?_cons_zero, Res.bind_ok, em, Res.bind, Res.toS, SR.andThen_exc, tryKO, lk, noExc_next, v_sNil, v_sRet, SR.andThen_ret]
  simp [m__law_told, mDef, eb]
end
end My
/-! places: in order; those of a plan with barriers put in; how many steps -/
namespace My
open PySem hiding Tree
open AB L2
open R
theorem asc_ext : ∀ {A B : List Nat}, Asc A → Asc B → (∀ q, q ∈ A ↔ q ∈ B) → A = B
  | [], [], _, _, _ => rfl
  | [], b :: B, _, _, h => absurd ((h b).mpr List.mem_cons_self) (by simp)
  | a :: A, [], _, _, h => absurd ((h a).mp List.mem_cons_self) (by simp)
  | a :: A, b :: B, h1, h2, h => by
    obtain ⟨a1, a2⟩ := List.pairwise_cons.mp h1
    obtain ⟨b1, b2⟩ := List.pairwise_cons.mp h2
    have e : a = b := by
      rcases List.mem_cons.mp ((h a).mp List.mem_cons_self) with q | q
      · exact q
      · rcases List.mem_cons.mp ((h b).mpr List.mem_cons_self) with z | z
        · exact z.symm
        · have := b1 a q
          have := a1 b z
          omega
    subst e
    refine congrArg (a :: ·) (asc_ext a2 b2 fun q => ?_)
    constructor
    · intro z
      rcases List.mem_cons.mp ((h q).mp (List.mem_cons_of_mem _ z)) with y | y
      · have := a1 q z; omega
      · exact y
    · intro z
      rcases List.mem_cons.mp ((h q).mpr (List.mem_cons_of_mem _ z)) with y | y
      · have := b1 q z; omega
      · exact y
theorem srtN_self {L : List Nat} (h : Asc L) : srtN L = L := by
  have e : sortI (L.map fun k : Nat => (k : Int)) = L.map fun k : Nat => (k : Int) := by
    refine sorted_uniq (List.mergeSort_perm _ _) (sortI_sorted _) ?_
    rw [List.pairwise_map]
    exact h.imp fun z => by omega
  unfold srtN
  rw [e, List.map_map]
  have : (Int.toNat ∘ fun k : Nat => (k : Int)) = id := by funext k; simp
  rw [this, List.map_id]
theorem plF_asc : ∀ xs : List Stp, Asc (plF xs).1 ∧ ∀ q ∈ (plF xs).1, q ≤ (plF xs).2 := by
  have key : ∀ (xs : List Stp) (S : List Nat × Nat), (Asc S.1 ∧ ∀ q ∈ S.1, q ≤ S.2) → Asc (xs.foldl plS S).1 ∧ ∀ q ∈ (xs.foldl plS S).1, q ≤ (xs.foldl plS S).2 := by
    intro xs
    induction xs with
    | nil => exact fun S h => h
    | cons x xs ih =>
      intro S ⟨h1, h2⟩
      refine ih (plS S x) ?_
      unfold plS
      by_cases c : isBar x = true
      · rw [if_pos c]
        show Asc (addK S.1 S.2) ∧ ∀ q ∈ addK S.1 S.2, q ≤ S.2
        refine ⟨?_, fun q hq => ?_⟩
        · unfold addK
          by_cases c2 : S.2 ∈ S.1
          · rw [if_pos c2]; exact h1
          · rw [if_neg c2]
            refine List.pairwise_append.mpr ⟨h1, List.pairwise_singleton _ _, fun a ha b hb => ?_⟩
            rw [List.mem_singleton.mp hb]
            have := h2 a ha
            have : a ≠ S.2 := fun e => c2 (e ▸ ha)
            omega
        · rcases addK_mem.mp hq with z | z
          · exact h2 q z
          · omega
      · rw [if_neg c]
        exact ⟨h1, fun q hq => by have := h2 q hq; show q ≤ S.2 + 1; omega⟩
  exact fun xs => key xs ([], 0) ⟨List.Pairwise.nil, by simp⟩
theorem plF_withL {L : List Nat} {bs : List Stp} (hb : Bare bs) (hA : Asc L) (hL : ∀ q ∈ L, q ≤ bs.length) : (plF (withL L bs)).1 = L :=
  asc_ext (plF_asc _).1 hA fun q => (plF_with hb q).trans ⟨fun h => h.1, fun h => ⟨h, hL q h⟩⟩
theorem plF_bare {bs : List Stp} (hb : Bare bs) : (plF bs).1 = [] := by
  have key : ∀ (xs : List Stp) (S : List Nat × Nat), Bare xs → (xs.foldl plS S).1 = S.1 := by
    intro xs
    induction xs with
    | nil => exact fun S _ => rfl
    | cons x xs ih =>
      intro S hb
      rw [List.foldl_cons, ih _ fun y hy => hb y (List.mem_cons_of_mem _ hy)]
      unfold plS
      rw [hb x List.mem_cons_self, if_neg (by decide)]
  exact key bs ([], 0) hb
theorem plF_two (xs : List Stp) : (plF xs).2 = (bareL xs).length := by
  have key : ∀ (xs : List Stp) (S : List Nat × Nat), (xs.foldl plS S).2 = S.2 + (bareL xs).length := by
    intro xs
    induction xs with
    | nil => exact fun S => rfl
    | cons x xs ih =>
      intro S
      rw [List.foldl_cons, ih]
      unfold plS bareL
      rw [List.filter_cons]
      cases c : isBar x with
      | true => rw [if_pos rfl]; simp
      | false =>
        rw [if_neg (by decide)]
        simp
        omega
  have := key xs ([], 0)
  have h0 : (([], 0) : List Nat × Nat).2 = 0 := rfl
  unfold plF
  omega
theorem plF_le {xs : List Stp} {q : Nat} (h : q ∈ (plF xs).1) : q ≤ (bareL xs).length := by
  have := (plF_asc xs).2 q h
  rw [plF_two] at this
  exact this
theorem plF_few (xs : List Stp) : (plF xs).1.length + (bareL xs).length ≤ xs.length := by
  have key : ∀ (xs : List Stp) (S : List Nat × Nat), (xs.foldl plS S).1.length + (bareL xs).length ≤ S.1.length + xs.length := by
    intro xs
    induction xs with
    | nil => intro S; simp [bareL]
    | cons x xs ih =>
      intro S
      have := ih (plS S x)
      rw [List.foldl_cons, List.length_cons]
      unfold bareL at this ⊢
      rw [List.filter_cons]
      unfold plS at this ⊢
      cases c : isBar x with
      | true =>
        rw [c, if_pos rfl] at this
        rw [if_pos rfl]
        have h2 := addK_len S.1 S.2
        simp only [Bool.not_true, Bool.false_eq_true, if_false]
        have h3 : ((addK S.1 S.2, S.2) : List Nat × Nat).1.length = (addK S.1 S.2).length := rfl
        omega
      | false =>
        rw [c, if_neg (by decide)] at this
        rw [if_neg (by decide)]
        simp only [Bool.not_false, if_true, List.length_cons]
        have h3 : ((S.1, S.2 + 1) : List Nat × Nat).1.length = S.1.length := rfl
        omega
  have := key xs ([], 0)
  have h0 : (([], 0) : List Nat × Nat).1.length = 0 := rfl
  unfold plF
  omega
theorem fil_step (m q : Nat) (L : List Nat) : ((q :: L).filter fun x => decide (x < m)).length = (L.filter fun x => decide (x < m)).length + (if q < m then 1 else 0) := by
  rw [List.filter_cons]
  by_cases c : q < m
  · simp [c]
  · simp [c]
theorem fil_succ (m : Nat) : ∀ L : List Nat, (L.filter fun q => decide (q < m)).length + (if m ∈ L then 1 else 0) ≤ (L.filter fun q => decide (q < m + 1)).length
  | [] => by simp
  | q :: L => by
    have ih := fil_succ m L
    rw [fil_step, fil_step]
    have e : (if m ∈ q :: L then 1 else 0) ≤ (if q = m then 1 else 0) + (if m ∈ L then 1 else 0) := by
      by_cases c : q = m
      · simp [c]
      · have c3 : ¬ m = q := fun e => c e.symm
        simp [c, c3]
    have f : (if q < m then 1 else 0) + (if q = m then 1 else 0) = (if q < m + 1 then 1 else 0) := by
      by_cases c : q < m
      · have : ¬ q = m := by omega
        have : q < m + 1 := by omega
        simp [*]
      · by_cases c2 : q = m
        · simp [c2]
        · have : ¬ q < m + 1 := by omega
          simp [*]
    omega
theorem preW_few (L : List Nat) (bs : List Stp) : ∀ m, (preW L bs m).length ≤ (L.filter fun q => decide (q < m)).length + min m bs.length
  | 0 => by simp [preW]
  | m + 1 => by
    have ih := preW_few L bs m
    have f := fil_succ m L
    show (preW L bs m ++ (putB L m ++ (bs[m]?).toList)).length ≤ _
    rw [List.length_append, List.length_append]
    have h1 : (putB L m).length = if m ∈ L then 1 else 0 := by unfold putB; split <;> rfl
    have h2 : ((bs[m]?).toList).length + min m bs.length ≤ min (m + 1) bs.length := by
      by_cases c : m < bs.length
      · rw [List.getElem?_eq_getElem c]
        simp only [Option.toList, List.length_singleton]
        omega
      · rw [List.getElem?_eq_none_iff.mpr (by omega)]
        simp only [Option.toList, List.length_nil]
        omega
    omega
theorem withL_few (L : List Nat) (bs : List Stp) : (withL L bs).length ≤ L.length + bs.length := by
  have h := preW_few L bs (bs.length + 1)
  have h2 := List.length_filter_le (fun q => decide (q < bs.length + 1)) L
  unfold withL
  omega
section
variable {h : AH} {C : Str} {nP : Nat} {K : List (Option Val)} {xs : List Stp}
theorem placesA_ok [IsPl C] (gP : h[nP]? = some (.ins C (planF K xs))) (hl : xs.length ≤ 1000) : m_places [.loc nP] h = .ok (.tup ((plF xs).1.map nD)) h := by
  have e := pl_ok gP hl
  rw [srtN_self (plF_asc xs).1] at e
  exact e
end
end My
/-! a long plan -/
namespace My
open PySem hiding Tree
open AB L2
open R
theorem plan_any {n : Nat} {K : List (Option Val)} {xs : List Stp} (p : PlanOk n K xs) {G : AB.Env} {h : AH} {as : MeL} (e : as G h = .ok [.tup (K.map hvD), .tup (xs.map stD)] h) :
    (mMake "Plan" m_Plan___init__ as) G h = .ok (.loc h.length) (h ++ [.ins "Plan" (planF K xs)]) := by
  have := plan_ok p (G := [some (.tup (K.map hvD)), some (.tup (xs.map stD))]) (i := 0) (j := 1) rfl rfl h
  rw [v_mMake] at this ⊢
  rw [e]
  simp only [v_aCons, v_aNil, v_mV, List.getElem?_cons_succ, List.getElem?_cons_zero, Res.bind_ok] at this ⊢
  exact this
theorem sub_asc {L : List Nat} {m : Nat} (h : L.Sublist (List.range m)) : Asc L ∧ (∀ q ∈ L, q < m) ∧ L.length ≤ m := by
  refine ⟨(List.pairwise_lt_range (n := m)).sublist h, fun q hq => List.mem_range.mp (h.mem hq), ?_⟩
  have := h.length_le
  rwa [List.length_range] at this
section
variable {cs : List Int} {P : AO} {tl : AH}
noncomputable def l1 : Ms := sSet 1 (mOp2 fAdd (mC (.int 150)) (mN m__law_draw (aCons (mV 0) (aCons (mC (.int 51)) aNil))))
noncomputable def l2e : Me := mN fTup (aCons (mC (.str "write")) (aCons (mN m__law_draw (aCons (mV 0) (aCons (mC (.int 2)) aNil))) (aCons (mN fTup (aCons (mOp2 fMod (mN fInt (aCons (mV 7) aNil)) (mC (.int 7))) aNil)) aNil)))
noncomputable def l2 : Ms := sSet 2 (mN fTuple (aCons (mL (lComp (.nm 7) [7] (iRange1 (aCons (mV 1) aNil)) tYesM l2e)) aNil))
noncomputable def l3 : Ms := sSet 3 (mMake "Plan" m_Plan___init__ (aCons (mN fTup (aCons (mN fTup aNil) (aCons (mN fTup aNil) aNil))) (aCons (mV 2) aNil)))
noncomputable def l4t : MeT := tBl (mOp2 cGt (mN m__law_draw (aCons (mV 0) (aCons (mC (.int 5)) aNil))) (mC (.int 0)))
noncomputable def l4 : Ms := sSet 4 (mN fTuple (aCons (mL (lComp (.nm 8) [8] (iRange1 (aCons (mOp2 fAdd (mV 1) (mC (.int 1))) aNil)) l4t (mV 8))) aNil))
noncomputable def l5 : Ms := sSet 5 (mN m_with_barriers (aCons (mV 3) (aCons (mV 4) aNil)))
noncomputable def lI : Ms := sIf (tOrM (tBl (mOp2 fNe (mMeth [("Plan", m_Plan_steps), ("RawPlan", m_Plan_steps)] "steps" (mV 5) aNil) (mN m__law_with (aCons (mV 2) (aCons (mV 4) aNil))))) (tOrM (tBl (mOp2 fNe (mN m_places (aCons (mV 5) aNil)) (mV 4))) (tBl (mOp2 (fNeI [("RawPlan", m_Plan___eq__)] [("RawPlan", "Plan"), ("RawPlan", "RawPlan")]) (mN m_bare (aCons (mV 5) aNil)) (mV 3))))) (sSeq (sRet (mC (.bl false))) sNil) sNil
noncomputable def l6 : Ms := sSet 6 (mN m_with_barriers (aCons (mV 5) (aCons (mN fTup (aCons (mC (.int 0)) (aCons (mV 1) aNil))) aNil)))
noncomputable def lR : Ms := sRet (mAnd (mOp2 fEq (mMeth [("Plan", m_Plan_steps), ("RawPlan", m_Plan_steps)] "steps" (mV 6) aNil) (mOp2 fAdd (mOp2 fAdd (mN fTup (aCons (mN fTup (aCons (mC (.str "barrier")) aNil)) aNil)) (mV 2)) (mN fTup (aCons (mN fTup (aCons (mC (.str "barrier")) aNil)) aNil)))) (mOp2 fEq (mN m_places (aCons (mN m_bare (aCons (mV 5) aNil)) aNil)) (mN fTup aNil)))
theorem long_eq : b__law_long_right = sSeq l1 (sSeq l2 (sSeq l3 (sSeq l4 (sSeq l5 (sSeq lI (sSeq l6 (sSeq lR sNil))))))) := rfl
theorem wr_of (zs : List (Nat × D)) (h : ∀ z ∈ zs, ∃ s : Nat, s < 2 ∧ z.2 = stD (.wr s [(z.1 : Int) % 7])) : ∃ xs : List Stp, zs.map (·.2) = xs.map stD ∧ xs.length = zs.length ∧ ∀ x ∈ xs, ∃ s v, x = .wr s v ∧ s < 2 ∧ VOk v := by
  induction zs with
  | nil => exact ⟨[], rfl, rfl, by simp⟩
  | cons z zs ih =>
    obtain ⟨xs, e, hl, hx⟩ := ih fun y hy => h y (List.mem_cons_of_mem _ hy)
    obtain ⟨s, hs, ez⟩ := h z List.mem_cons_self
    refine ⟨.wr s [(z.1 : Int) % 7] :: xs, by simp [e, ez], by simp [hl], fun x hx' => ?_⟩
    rcases List.mem_cons.mp hx' with rfl | hx'
    · exact ⟨s, _, rfl, hs, ⟨fun k hk => by rw [List.mem_singleton.mp hk]; omega, by simp⟩⟩
    · exact hx x hx'
theorem long_plan {xs : List Stp} (hl : xs.length ≤ 200) (hx : ∀ x ∈ xs, ∃ s v, x = .wr s v ∧ s < 2 ∧ VOk v) : PlanOk 2 [some [], some []] xs ∧ Bare xs := by
  have b : Bare xs := fun x h => by
    obtain ⟨s, v, rfl, _⟩ := hx x h
    rfl
  have u : ∀ ys : List Stp, (∀ x ∈ ys, ∃ s v, x = Stp.wr s v ∧ s < 2 ∧ VOk v) → ∀ a : Int, ys.foldl (fun u x => u + x.lift) a = a := by
    intro ys
    induction ys with
    | nil => exact fun _ a => rfl
    | cons y ys ih =>
      intro h a
      obtain ⟨s, v, rfl, _⟩ := h y List.mem_cons_self
      rw [List.foldl_cons, ih (fun x hx => h x (List.mem_cons_of_mem _ hx))]
      exact Int.add_zero a
  refine ⟨⟨by omega, by omega, rfl, fun o ho => ?_, by simp, hl, fun x h => ?_, fun k => ?_⟩, b⟩
  · have : o = some [] := by simpa using ho
    subst this
    exact ⟨by simp, by simp⟩
  · obtain ⟨s, v, rfl, h1, h2⟩ := hx x h
    exact ⟨h1, h2⟩
  · unfold und
    rw [u _ fun x hx' => hx x (List.mem_of_mem_take hx')]
    exact Int.le_refl _
theorem preW_two (bs : List Stp) : withL [0, bs.length] bs = if bs = [] then [.bar] else .bar :: bs ++ [.bar] := by
  have key : ∀ m, 0 < m → m ≤ bs.length → preW [0, bs.length] bs m = .bar :: bs.take m := by
    intro m
    induction m with
    | zero => intro h; omega
    | succ m ih =>
      intro _ h2
      show preW [0, bs.length] bs m ++ (putB [0, bs.length] m ++ (bs[m]?).toList) = _
      rw [take_snoc]
      by_cases c : m = 0
      · subst c
        simp [preW, putB]
      · rw [ih (by omega) (by omega)]
        have : putB [0, bs.length] m = [] := by
          unfold putB
          rw [if_neg]
          simp
          omega
        rw [this]
        simp
  have hn : bs[bs.length]? = none := List.getElem?_eq_none_iff.mpr (Nat.le_refl _)
  have e : withL [0, bs.length] bs = preW [0, bs.length] bs bs.length ++ putB [0, bs.length] bs.length := by
    show preW [0, bs.length] bs bs.length ++ (putB [0, bs.length] bs.length ++ (bs[bs.length]?).toList) = _
    rw [hn]
    simp
  rw [e]
  by_cases c : bs = []
  · subst c
    rfl
  · rw [if_neg c, key bs.length (List.length_pos_iff.mpr c) (Nat.le_refl _), List.take_length]
    have : putB [0, bs.length] bs.length = [.bar] := by
      unfold putB
      rw [if_pos]
      simp
    rw [this]
end
end My
/-! _law_long_right -/
namespace My
open PySem hiding Tree
open AB L2
open R
section
variable {cs : List Int} {P : AO} {tl : AH}
theorem l2_ok (hc : ∀ c ∈ cs, 0 ≤ c) (hP : IsP cs P) {m : Nat} (hm : m ≤ 200) :
    ∃ (xs : List Stp) (P' : AO), l2 [some (.loc 0), some (.int (m : Int)), none, none, none, none, none, none, none] (P :: tl) = .next [some (.loc 0), some (.int (m : Int)), some (.tup (xs.map stD)), none, none, none, none, none, none] (P' :: tl) ∧ IsP cs P' ∧ xs.length = m ∧ ∀ x ∈ xs, ∃ s v, x = .wr s v ∧ s < 2 ∧ VOk v := by
  obtain ⟨zs, h', e2, ⟨P2, hP2, rfl⟩, e3, hz⟩ := comp_gen (p := .nm 7) (e := l2e) (all0 := (List.range m).map fun i : Nat => D.int (i : Int)) (G0 := [some (.loc 0), some (.int (m : Int)), none, none, none, none, none, none, none]) (I := fun h => ∃ P', IsP cs P' ∧ h = P' :: tl)
    (R := fun (i : Nat) d => ∃ s : Nat, s < 2 ∧ d = stD (.wr s [(i : Int) % 7])) (fun i : Nat => D.int (i : Int)) (List.range m)
    (by
      rintro i hi h ⟨P', hP', rfl⟩
      obtain ⟨r, P2, e, hP2, r0, r1⟩ := draw_ok hc hP' (many := 2) (by omega) (by omega) tl
      obtain ⟨s, rfl⟩ : ∃ s : Nat, r = (s : Int) := ⟨r.toNat, by omega⟩
      refine ⟨[some (.loc 0), some (.int (m : Int)), none, none, none, none, none, some (.int (i : Int)), none], _, P2 :: tl, rfl, ?_, ⟨P2, hP2, rfl⟩, s, by omega, rfl⟩
      have b1 : (1 : Nat) ≤ big := by decide
      have b3 : (3 : Nat) ≤ big := by decide
      have p7 : (0 : Int) < 7 := by decide
      unfold l2e
      simp only [v_mN, v_aCons, v_aNil, v_mV, v_mC, v_mOp2, List.getElem?_cons_succ, List.getElem?_cons_zero, Res.bind_ok, e, v_int, v_mod, p7, if_true, v_fTup, List.length_cons, List.length_nil, Nat.zero_add, Nat.reduceAdd, b1, b3]
      rfl)
    (P :: tl) ⟨P, hP, rfl⟩
  obtain ⟨xs, ex, lx, hx⟩ := wr_of zs hz
  have lz : zs.length = m := by
    have := congrArg List.length e3
    simpa using this
  rw [ex] at e2
  refine ⟨xs, P2, ?_, hP2, by omega, hx⟩
  have er : rangeD 0 m = (List.range m).map fun i : Nat => D.int (i : Int) := rangeD_eq m
  have c1 : okR (m : Int) := ⟨by omega, by omega⟩
  have ln : ((List.range m).map fun i : Nat => D.int (i : Int)).length ≤ big := by rw [List.length_map, List.length_range, big_eq]; omega
  have w : wipeG [some (.loc 0), some (.int (m : Int)), none, none, none, none, none, none, none] [7] = [some (.loc 0), some (.int (m : Int)), none, none, none, none, none, none, none] := rfl
  have ei : (iRange1 (aCons (mV 1) aNil)) [some (.loc 0), some (.int (m : Int)), none, none, none, none, none, none, none] (P :: tl) = .ok ((List.range m).map fun i : Nat => D.int (i : Int), none) (P :: tl) := by
    rw [v_range1]
    simp only [v_aCons, v_aNil, v_mV, List.getElem?_cons_succ, List.getElem?_cons_zero, Res.bind_ok, c1, if_true]
    show Res.ok (rangeD 0 (m : Int).toNat, none) _ = _
    rw [Int.toNat_natCast, er]
  unfold l2
  simp only [v_sSet, v_mN, v_aCons, v_aNil, v_mL, v_lComp, ei, Res.bind_ok, ln, if_true, w, e2, v_tuple, v_vSl, Res.toS_ok, List.set_cons_succ, List.set_cons_zero]
theorem l4_ok (hc : ∀ c ∈ cs, 0 ≤ c) (hP : IsP cs P) {m : Nat} (hm : m ≤ 200) {d2 d3 : D} :
    ∃ (L : List Nat) (P' : AO), l4 [some (.loc 0), some (.int (m : Int)), some d2, some d3, none, none, none, none, none] (P :: tl) = .next [some (.loc 0), some (.int (m : Int)), some d2, some d3, some (.tup (L.map nD)), none, none, none, none] (P' :: tl) ∧ IsP cs P' ∧ L.Sublist (List.range (m + 1)) := by
  obtain ⟨L, h', e2, ⟨P2, hP2, rfl⟩, sl⟩ := comp_inv (p := .nm 8) (t := l4t) (e := mV 8) (all0 := (List.range (m + 1)).map fun i : Nat => D.int (i : Int)) (G0 := [some (.loc 0), some (.int (m : Int)), some d2, some d3, none, none, none, none, none]) (I := fun h => ∃ P', IsP cs P' ∧ h = P' :: tl)
    (fun i : Nat => D.int (i : Int)) nD (List.range (m + 1))
    (by
      rintro i hi h ⟨P', hP', rfl⟩
      obtain ⟨r, P2, e, hP2, r0, r1⟩ := draw_ok hc hP' (many := 5) (by omega) (by omega) tl
      refine ⟨[some (.loc 0), some (.int (m : Int)), some d2, some d3, none, none, none, none, some (.int (i : Int))], decide (0 < r), P2 :: tl, rfl, ?_, ⟨P2, hP2, rfl⟩, fun _ => ⟨_, rfl, P2, hP2, rfl⟩⟩
      unfold l4t
      simp only [v_tBl, v_mOp2, v_mN, v_aCons, v_aNil, v_mV, v_mC, List.getElem?_cons_succ, List.getElem?_cons_zero, Res.bind_ok, e, v_cGt])
    (P :: tl) ⟨P, hP, rfl⟩
  refine ⟨L, P2, ?_, hP2, sl⟩
  have er : rangeD 0 (m + 1) = (List.range (m + 1)).map fun i : Nat => D.int (i : Int) := rangeD_eq _
  have c1 : okR ((m : Int) + 1) := ⟨by omega, by omega⟩
  have ln : ((List.range (m + 1)).map fun i : Nat => D.int (i : Int)).length ≤ big := by rw [List.length_map, List.length_range, big_eq]; omega
  have w : wipeG [some (.loc 0), some (.int (m : Int)), some d2, some d3, none, none, none, none, none] [8] = [some (.loc 0), some (.int (m : Int)), some d2, some d3, none, none, none, none, none] := rfl
  have ei : (iRange1 (aCons (mOp2 fAdd (mV 1) (mC (.int 1))) aNil)) [some (.loc 0), some (.int (m : Int)), some d2, some d3, none, none, none, none, none] (P :: tl) = .ok ((List.range (m + 1)).map fun i : Nat => D.int (i : Int), none) (P :: tl) := by
    rw [v_range1]
    simp only [v_aCons, v_aNil, v_mOp2, v_mV, v_mC, List.getElem?_cons_succ, List.getElem?_cons_zero, Res.bind_ok, v_add, c1, if_true]
    have : ((m : Int) + 1).toNat = m + 1 := by omega
    rw [this, er]
  unfold l4
  simp only [v_sSet, v_mN, v_aCons, v_aNil, v_mL, v_lComp, ei, Res.bind_ok, ln, if_true, w, e2, v_tuple, v_vSl, Res.toS_ok, List.set_cons_succ, List.set_cons_zero]
/-- the long plan's answers -/
theorem lI_ok {hh : AH} {nP F : Nat} {K : List (Option Val)} {bs : List Stp} {L : List Nat} {d0 d1 : D} (hb : Bare bs) (hl : bs.length ≤ 200) (hA : Asc L) (hL : ∀ q ∈ L, q ≤ bs.length) (hLl : L.length ≤ 201) (gP : hh[nP]? = some (.ins "Plan" (planF K bs))) (gF : hh[F]? = some (.ins "RawPlan" (planF K (withL L bs)))) :
    ∃ t, lI [some d0, some d1, some (.tup (bs.map stD)), some (.loc nP), some (.tup (L.map nD)), some (.loc F), none, none, none] hh = .next [some d0, some d1, some (.tup (bs.map stD)), some (.loc nP), some (.tup (L.map nD)), some (.loc F), none, none, none] (hh ++ t) := by
  have few := withL_few L bs
  have es := stepsMt_ok (G := [some d0, some d1, some (.tup (bs.map stD)), some (.loc nP), some (.tup (L.map nD)), some (.loc F), none, none, none]) (i := 5) rfl gF
  have ew := law_with_ok (memT L) hl hh
  have ep := placesA_ok gF (by omega)
  rw [plF_withL hb hA hL] at ep
  have eB := bareG_ok gF (by omega)
  rw [bare_with hb] at eB
  obtain ⟨h2, eh2⟩ : ∃ h2, h2 = hh ++ [AO.ins "RawPlan" (planF K bs)] := ⟨_, rfl⟩
  have g1 : h2[hh.length]? = some (.ins "RawPlan" (planF K bs)) := by rw [eh2, g_app0]; rfl
  have g2 : h2[nP]? = some (.ins "Plan" (planF K bs)) := by rw [eh2, List.getElem?_append_left (lt_of_get gP)]; exact gP
  have en := neI_ok g1 g2
  rw [← eh2] at eB
  refine ⟨[AO.ins "RawPlan" (planF K bs)], ?_⟩
  rw [← eh2]
  unfold lI
  simp only [v_sIf, v_tOr, v_tBl, v_mOp2, es, v_mN, v_aCons, v_aNil, v_mV, List.getElem?_cons_succ, List.getElem?_cons_zero, Res.bind_ok, ew, (da_steps _).ne, ep, (da_ns L).ne, eB, en, Bool.false_eq_true, if_false, Res.toS_ok, v_sNil]
theorem lR_ok {hh : AH} {F F2 m : Nat} {K : List (Option Val)} {bs : List Stp} {L : List Nat} {d0 d1 d3 d4 : D} (hb : Bare bs) (hl : bs.length ≤ 200) (hn : bs ≠ []) (hLl : L.length ≤ 201) (gF : hh[F]? = some (.ins "RawPlan" (planF K (withL L bs)))) (gF2 : hh[F2]? = some (.ins "RawPlan" (planF K (withL [0, bs.length] bs)))) :
    ∃ t, lR [some d0, some d1, some (.tup (bs.map stD)), some d3, some d4, some (.loc F), some (.loc F2), none, none] hh = .ret (.bl true) (hh ++ t) := by
  have few := withL_few L bs
  have es := stepsMt_ok (G := [some d0, some d1, some (.tup (bs.map stD)), some d3, some d4, some (.loc F), some (.loc F2), none, none]) (i := 6) rfl gF2
  rw [preW_two, if_neg hn] at es
  have eB := bareG_ok gF (by omega)
  rw [bare_with hb] at eB
  obtain ⟨h2, eh2⟩ : ∃ h2, h2 = hh ++ [AO.ins "RawPlan" (planF K bs)] := ⟨_, rfl⟩
  have g1 : h2[hh.length]? = some (.ins "RawPlan" (planF K bs)) := by rw [eh2, g_app0]; rfl
  rw [← eh2] at eB
  have ep := placesA_ok g1 (by omega)
  rw [plF_bare hb] at ep
  refine ⟨[AO.ins "RawPlan" (planF K bs)], ?_⟩
  rw [← eh2]
  have b1 : (1 : Nat) ≤ big := by decide
  have b0 : (0 : Nat) ≤ big := by decide
  have x1 : fAdd (.tup [.tup [.str "barrier"]]) (.tup (bs.map stD)) hh = .ok (.tup ((.bar :: bs).map stD)) hh := by
    rw [v_addT, if_pos (by simp [big_eq]; omega)]
    rfl
  have x2 : fAdd (.tup ((.bar :: bs).map stD)) (.tup [.tup [.str "barrier"]]) hh = .ok (.tup ((Stp.bar :: bs ++ [Stp.bar]).map stD)) hh := by
    rw [v_addT, if_pos (by simp [big_eq]; omega)]
    rw [List.map_append]
    rfl
  have e3 := (da_steps (.bar :: bs ++ [.bar])).eq (h := hh)
  have e4 : fEq (.tup (([] : List Nat).map nD)) (.tup []) h2 = .ok (.bl true) h2 := (da_ns []).eq
  unfold lR
  simp only [v_sRet, v_mAnd, v_mOp2, es, v_mN, v_aCons, v_aNil, v_mV, v_mC, List.getElem?_cons_succ, List.getElem?_cons_zero, Res.bind_ok, v_fTup, List.length_cons, List.length_nil, Nat.zero_add, b1, b0, if_true, x1, x2, e3, v_truB, eB, ep, e4, Res.toS_ok]
theorem long_ok (hc : ∀ c ∈ cs, 0 ≤ c) (hP : IsP cs P) : ∃ P', m__law_long_right [.loc 0] (P :: tl) = .ok (.bl true) (P' :: tl) ∧ IsP cs P' := by
  obtain ⟨r, P1, e1, hP1, r0, r1⟩ := draw_ok hc hP (many := 51) (by omega) (by omega) tl
  obtain ⟨k, rfl⟩ : ∃ k : Nat, r = (k : Int) := ⟨r.toNat, by omega⟩
  obtain ⟨m, em⟩ : ∃ m, m = 150 + k := ⟨_, rfl⟩
  have hm : m ≤ 200 := by omega
  have c1 : l1 [some (.loc 0), none, none, none, none, none, none, none, none] (P :: tl) = .next [some (.loc 0), some (.int (m : Int)), none, none, none, none, none, none, none] (P1 :: tl) := by
    have : (150 : Int) + (k : Int) = (m : Int) := by omega
    unfold l1
    simp only [v_sSet, v_mOp2, v_mN, v_aCons, v_aNil, v_mV, v_mC, List.getElem?_cons_succ, List.getElem?_cons_zero, Res.bind_ok, e1, v_add, this, Res.toS_ok, List.set_cons_succ, List.set_cons_zero]
  obtain ⟨bs, P2, c2, hP2, lb, hx⟩ := l2_ok (tl := tl) hc hP1 hm
  obtain ⟨p, hb⟩ := long_plan (by omega) hx
  obtain ⟨L, P4, c4, hP4, sl⟩ := l4_ok (tl := tl ++ [AO.ins "Plan" (planF [some [], some []] bs)]) (d2 := .tup (bs.map stD)) (d3 := .loc (P2 :: tl).length) hc hP2 hm
  obtain ⟨hA, hL, hLl⟩ := sub_asc sl
  have c3 : l3 [some (.loc 0), some (.int (m : Int)), some (.tup (bs.map stD)), none, none, none, none, none, none] (P2 :: tl) = .next [some (.loc 0), some (.int (m : Int)), some (.tup (bs.map stD)), some (.loc (P2 :: tl).length), none, none, none, none, none] (P2 :: (tl ++ [AO.ins "Plan" (planF [some [], some []] bs)])) := by
    have b2 : (2 : Nat) ≤ big := by decide
    have b0 : (0 : Nat) ≤ big := by decide
    have ea : (aCons (mN fTup (aCons (mN fTup aNil) (aCons (mN fTup aNil) aNil))) (aCons (mV 2) aNil)) [some (.loc 0), some (.int (m : Int)), some (.tup (bs.map stD)), none, none, none, none, none, none] (P2 :: tl) = .ok [.tup (([some [], some []] : List (Option Val)).map hvD), .tup (bs.map stD)] (P2 :: tl) := by
      simp only [v_mN, v_aCons, v_aNil, v_mV, List.getElem?_cons_succ, List.getElem?_cons_zero, Res.bind_ok, v_fTup, List.length_cons, List.length_nil, Nat.zero_add, Nat.reduceAdd, b0, b2, if_true]
      rfl
    have := plan_any p ea
    unfold l3
    simp only [v_sSet, this, Res.toS_ok, List.set_cons_succ, List.set_cons_zero]
    rfl
  obtain ⟨h4, eh4⟩ : ∃ h4, h4 = P4 :: (tl ++ [AO.ins "Plan" (planF [some [], some []] bs)]) := ⟨_, rfl⟩
  have gP : h4[(P2 :: tl).length]? = some (.ins "Plan" (planF [some [], some []] bs)) := by
    rw [eh4]
    show (P4 :: tl ++ [AO.ins "Plan" (planF [some [], some []] bs)])[(P4 :: tl).length]? = _
    rw [g_app0]
    rfl
  have ebs : bareL bs = bs := bare_bare hb
  obtain ⟨F, T, e5, gF⟩ := with_barriers_ok (n := 2) gP (by omega) (by rw [ebs]; omega) hA (fun q hq => by have := hL q hq; rw [ebs]; omega) (by omega)
  rw [ebs] at gF
  have c5 : l5 [some (.loc 0), some (.int (m : Int)), some (.tup (bs.map stD)), some (.loc (P2 :: tl).length), some (.tup (L.map nD)), none, none, none, none] h4 = .next [some (.loc 0), some (.int (m : Int)), some (.tup (bs.map stD)), some (.loc (P2 :: tl).length), some (.tup (L.map nD)), some (.loc F), none, none, none] (h4 ++ T) := by
    unfold l5
    simp only [v_sSet, v_mN, v_aCons, v_aNil, v_mV, List.getElem?_cons_succ, List.getElem?_cons_zero, Res.bind_ok, e5, Res.toS_ok, List.set_cons_succ, List.set_cons_zero]
  have gP5 : (h4 ++ T)[(P2 :: tl).length]? = some (.ins "Plan" (planF [some [], some []] bs)) := by rw [List.getElem?_append_left (lt_of_get gP)]; exact gP
  obtain ⟨t6, c6⟩ := lI_ok (d0 := .loc 0) (d1 := .int (m : Int)) hb (by omega) hA (fun q hq => by have := hL q hq; omega) (by omega) gP5 gF
  have gF6 : (h4 ++ T ++ t6)[F]? = some (.ins "RawPlan" (planF [some [], some []] (withL L bs))) := by rw [List.getElem?_append_left (lt_of_get gF)]; exact gF
  have few := withL_few L bs
  have ebw : bareL (withL L bs) = bs := bare_with hb L
  have A2 : Asc [0, bs.length] := by
    refine List.pairwise_cons.mpr ⟨fun q hq => ?_, List.pairwise_singleton _ _⟩
    rw [List.mem_singleton.mp hq]
    omega
  obtain ⟨F2, T2, e7, gF2⟩ := with_barriers_ok (n := 2) (L := [0, bs.length]) gF6 (by omega) (by rw [ebw]; omega) A2 (fun q hq => by
    rw [ebw]
    rcases List.mem_cons.mp hq with rfl | hq
    · omega
    · rw [List.mem_singleton.mp hq]; omega) (by show 2 ≤ 1000; omega)
  rw [ebw] at gF2
  have c7 : l6 [some (.loc 0), some (.int (m : Int)), some (.tup (bs.map stD)), some (.loc (P2 :: tl).length), some (.tup (L.map nD)), some (.loc F), none, none, none] (h4 ++ T ++ t6) = .next [some (.loc 0), some (.int (m : Int)), some (.tup (bs.map stD)), some (.loc (P2 :: tl).length), some (.tup (L.map nD)), some (.loc F), some (.loc F2), none, none] (h4 ++ T ++ t6 ++ T2) := by
    have b2 : (2 : Nat) ≤ big := by decide
    have e7 : m_with_barriers [.loc F, .tup [.int 0, .int (m : Int)]] (h4 ++ T ++ t6) = .ok (.loc F2) (h4 ++ T ++ t6 ++ T2) := by
      rw [← lb]
      exact e7
    unfold l6
    simp only [v_sSet, v_mN, v_aCons, v_aNil, v_mV, v_mC, List.getElem?_cons_succ, List.getElem?_cons_zero, Res.bind_ok, v_fTup, List.length_cons, List.length_nil, Nat.zero_add, Nat.reduceAdd, b2, if_true, e7, Res.toS_ok, List.set_cons_succ, List.set_cons_zero]
  have gF8 : (h4 ++ T ++ t6 ++ T2)[F]? = some (.ins "RawPlan" (planF [some [], some []] (withL L bs))) := by rw [List.getElem?_append_left (lt_of_get gF6)]; exact gF6
  have hn : bs ≠ [] := fun z => by rw [z] at lb; simp at lb; omega
  obtain ⟨t8, c8⟩ := lR_ok (m := m) (d0 := .loc 0) (d1 := .int (m : Int)) (d3 := .loc (P2 :: tl).length) (d4 := .tup (L.map nD)) hb (by omega) hn (by omega) gF8 gF2
  have eb : b__law_long_right [some (.loc 0), none, none, none, none, none, none, none, none] (P :: tl) = .ret (.bl true) (h4 ++ T ++ t6 ++ T2 ++ t8) := by
    rw [long_eq]
    rw [eh4] at c5 c6 c7 c8 ⊢
    simp only [v_sSeq, c1, SR.andThen_next, c2, c3, c4, c5, c6, c7, c8, SR.andThen_ret]
  refine ⟨P4, ?_, hP4⟩
  have ef : h4 ++ T ++ t6 ++ T2 ++ t8 = P4 :: (tl ++ ([AO.ins "Plan" (planF [some [], some []] bs)] ++ T ++ t6 ++ T2 ++ t8)) := by rw [eh4]; simp
  have fin := finD_hand (P := P) hP4 tl ([AO.ins "Plan" (planF [some [], some []] bs)] ++ T ++ t6 ++ T2 ++ t8) (.bl true) rfl
  rw [← ef] at fin
  have em : m__law_long_right [.loc 0] (P :: tl) = (match b__law_long_right [some (.loc 0), none, none, none, none, none, none, none, none] (P :: tl) with
    | .next _ h1 => finD (tl.length + 1) (P :: tl) .non h1
    | .ret d h1 => finD (tl.length + 1) (P :: tl) d h1
    | .exc c fs _ h1 => finX (tl.length + 1) (P :: tl) c fs h1
    | _ => .stuck) := by
    unfold m__law_long_right mDef
    rw [if_pos (show [D.loc 0].length = 1 from rfl)]
    rfl
  rw [em, eb]
  exact fin
end
end My
/-! a turn's statements -/
namespace My
open PySem hiding Tree
open AB L2
open R
theorem meth_any {h h1 : AH} {C : Str} {nP : Nat} {K : List (Option Val)} {xs : List Stp} [IsPl C] {G : AB.Env} {fn : Fn} {f : Str} {m : Me} {d : D} (h1' : ¬ f = "kept_state") (h2 : ¬ f = "kept_steps") (hm : m G h = .ok (.loc nP) h1) (gP : h1[nP]? = some (.ins C (planF K xs))) (e : fn [.loc nP] h1 = .ok d h1) :
    (mMeth [("Plan", fn), ("RawPlan", fn)] f m aNil) G h = .ok d h1 := by
  simp only [v_mMeth, hm, Res.bind_ok, gP, lk_tab, pf_no h1' h2, v_aNil, e]
theorem okP_nO {h : AH} {n : Nat} {L : List Nat} (hn : h[n]? = some (.lst (L.map nD))) : okP h (.loc n) = some (.list (L.map fun q : Nat => PyData.int (q : Int))) := by
  have e : toPh h (.loc n) = some (.list (L.map fun q : Nat => PyData.int (q : Int))) := by
    show (match h[n]? with
      | some (.lst ds) => (toPs ds).map PyData.list
      | _ => none) = _
    rw [hn]
    show (toPs (L.map nD)).map PyData.list = _
    rw [toPs_n]
    rfl
  unfold okP
  rw [e]
  refine if_pos ?_
  unfold SeqAt.shaped
  have h1 : PyData.canLay0 (.list (L.map fun q : Nat => PyData.int (q : Int))) = true := by simp only [PyData.canLay0]; exact lay_n L
  have h2 := dep_n L
  rw [h1, Bool.true_and]
  refine decide_eq_true ?_
  simp only [PyData.depth]
  omega
theorem notin_nO {h : AH} {n : Nat} {L : List Nat} (hn : h[n]? = some (.lst (L.map nD))) (k : Nat) : fNotIn (.int (k : Int)) (.loc n) h = .ok (.bl (!decide (k ∈ L))) h := by
  have e1 : okP h (.int (k : Int)) = some (.int (k : Int)) := rfl
  unfold fNotIn inD
  rw [e1, okP_nO hn]
  simp only [any_nD]
section
variable {cs : List Int} {hh : AH} {G : AB.Env} {nP F nD' n : Nat} {K : List (Option Val)} {xs : List Stp} {L : List Nat}
noncomputable def neB (a b : Me) : MeT := tBl (mOp2 (fNeI [("RawPlan", m_Plan___eq__)] [("RawPlan", "Plan"), ("RawPlan", "RawPlan")]) a b)
noncomputable def bareM (m : Me) : Me := mN m_bare (aCons m aNil)
noncomputable def fls (t : MeT) : Ms := sIf t (sSeq (sRet (mC (.bl false))) sNil) sNil
noncomputable def i9 : Ms := fls (tOrM (neB (bareM (mV 7)) (mMake "Plan" m_Plan___init__ (aCons (mV 5) (aCons (mV 8) aNil)))) (tOrM (neB (bareM (bareM (mV 7))) (bareM (mV 7))) (tBl (mOp2 fNe (mN m_places (aCons (bareM (mV 7)) aNil)) (mN fTup aNil)))))
theorem bareM_ok {C : Str} [IsPl C] {m : Me} {h h1 : AH} (hm : m G h = .ok (.loc nP) h1) (gP : h1[nP]? = some (.ins C (planF K xs))) (hl : xs.length ≤ 1000) : bareM m G h = .ok (.loc h1.length) (h1 ++ [AO.ins "RawPlan" (planF K (bareL xs))]) := by
  unfold bareM
  simp only [v_mN, v_aCons, v_aNil, hm, Res.bind_ok, bareG_ok gP hl]
theorem get_app {h t : AH} {n : Nat} {a : AO} (e : h[n]? = some a) : (h ++ t)[n]? = some a := by rw [List.getElem?_append_left (lt_of_get e)]; exact e
theorem get_new {h : AH} {a : AO} : (h ++ [a])[h.length]? = some a := by rw [g_app0]; rfl
theorem neB_ok {C2 : Str} [IsPl C2] {a b : Me} {h h1 h2 : AH} {n1 n2 : Nat} (ea : a G h = .ok (.loc n1) h1) (eb : b G h1 = .ok (.loc n2) h2) (g1 : h2[n1]? = some (.ins "RawPlan" (planF K xs))) (g2 : h2[n2]? = some (.ins C2 (planF K xs))) : neB a b G h = .ok false h2 := by
  unfold neB
  simp only [v_tBl, v_mOp2, ea, Res.bind_ok, eb, neI_ok g1 g2]
theorem i9_ok (p : PlanOk n K xs) (gP : hh[nP]? = some (.ins "Plan" (planF K xs))) (g5 : G[5]? = some (some (.tup (K.map hvD)))) (g7 : G[7]? = some (some (.loc nP))) (g8 : G[8]? = some (some (.tup ((bareL xs).map stD)))) :
    ∃ t, i9 G hh = .next G (hh ++ t) := by
  have few := p.few
  have lb : (bareL xs).length ≤ xs.length := List.length_filter_le _ _
  have hb : Bare (bareL xs) := bareL_bare xs
  have pb : PlanOk n K (bareL xs) := by
    have := plan_bare p (bareL xs).length
    rwa [List.take_length] at this
  have v7 : ∀ h : AH, (mV 7) G h = .ok (.loc nP) h := fun h => by simp only [v_mV, g7]
  have a1 := bareM_ok (v7 hh) gP (by omega)
  obtain ⟨h1, eh1⟩ : ∃ h1, h1 = hh ++ [AO.ins "RawPlan" (planF K (bareL xs))] := ⟨_, rfl⟩
  have x1 : h1[hh.length]? = some (.ins "RawPlan" (planF K (bareL xs))) := by rw [eh1]; exact get_new
  have p1 : h1[nP]? = some (.ins "Plan" (planF K xs)) := by rw [eh1]; exact get_app gP
  rw [← eh1] at a1
  have a2 := plan_ok pb (G := G) (i := 5) (j := 8) g5 g8 h1
  obtain ⟨h2, eh2⟩ : ∃ h2, h2 = h1 ++ [AO.ins "Plan" (planF K (bareL xs))] := ⟨_, rfl⟩
  have x2 : h2[h1.length]? = some (.ins "Plan" (planF K (bareL xs))) := by rw [eh2]; exact get_new
  have x2' : h2[hh.length]? = some (.ins "RawPlan" (planF K (bareL xs))) := by rw [eh2]; exact get_app x1
  have p2 : h2[nP]? = some (.ins "Plan" (planF K xs)) := by rw [eh2]; exact get_app p1
  rw [← eh2] at a2
  have n1 := neB_ok a1 a2 x2' x2
  have a3 := bareM_ok (v7 h2) p2 (by omega)
  obtain ⟨h3, eh3⟩ : ∃ h3, h3 = h2 ++ [AO.ins "RawPlan" (planF K (bareL xs))] := ⟨_, rfl⟩
  have x3 : h3[h2.length]? = some (.ins "RawPlan" (planF K (bareL xs))) := by rw [eh3]; exact get_new
  have p3 : h3[nP]? = some (.ins "Plan" (planF K xs)) := by rw [eh3]; exact get_app p2
  rw [← eh3] at a3
  have a4 := bareM_ok a3 x3 (by omega)
  rw [bare_bare hb] at a4
  obtain ⟨h4, eh4⟩ : ∃ h4, h4 = h3 ++ [AO.ins "RawPlan" (planF K (bareL xs))] := ⟨_, rfl⟩
  have x4 : h4[h3.length]? = some (.ins "RawPlan" (planF K (bareL xs))) := by rw [eh4]; exact get_new
  have p4 : h4[nP]? = some (.ins "Plan" (planF K xs)) := by rw [eh4]; exact get_app p3
  rw [← eh4] at a4
  have a5 := bareM_ok (v7 h4) p4 (by omega)
  obtain ⟨h5, eh5⟩ : ∃ h5, h5 = h4 ++ [AO.ins "RawPlan" (planF K (bareL xs))] := ⟨_, rfl⟩
  have x5 : h5[h4.length]? = some (.ins "RawPlan" (planF K (bareL xs))) := by rw [eh5]; exact get_new
  have x5' : h5[h3.length]? = some (.ins "RawPlan" (planF K (bareL xs))) := by rw [eh5]; exact get_app x4
  have p5 : h5[nP]? = some (.ins "Plan" (planF K xs)) := by rw [eh5]; exact get_app p4
  rw [← eh5] at a5
  have n2 := neB_ok a4 a5 x5' x5
  have a6 := bareM_ok (v7 h5) p5 (by omega)
  obtain ⟨h6, eh6⟩ : ∃ h6, h6 = h5 ++ [AO.ins "RawPlan" (planF K (bareL xs))] := ⟨_, rfl⟩
  have x6 : h6[h5.length]? = some (.ins "RawPlan" (planF K (bareL xs))) := by rw [eh6]; exact get_new
  rw [← eh6] at a6
  have ep := placesA_ok x6 (by omega)
  rw [plF_bare hb] at ep
  have b0 : (0 : Nat) ≤ big := by decide
  have e4 : fNe (.tup (([] : List Nat).map nD)) (.tup []) h6 = .ok (.bl false) h6 := (da_ns []).ne
  refine ⟨[AO.ins "RawPlan" (planF K (bareL xs)), AO.ins "Plan" (planF K (bareL xs)), AO.ins "RawPlan" (planF K (bareL xs)), AO.ins "RawPlan" (planF K (bareL xs)), AO.ins "RawPlan" (planF K (bareL xs)), AO.ins "RawPlan" (planF K (bareL xs))], ?_⟩
  have eh : h6 = hh ++ [AO.ins "RawPlan" (planF K (bareL xs)), AO.ins "Plan" (planF K (bareL xs)), AO.ins "RawPlan" (planF K (bareL xs)), AO.ins "RawPlan" (planF K (bareL xs)), AO.ins "RawPlan" (planF K (bareL xs)), AO.ins "RawPlan" (planF K (bareL xs))] := by
    rw [eh6, eh5, eh4, eh3, eh2, eh1]
    simp
  rw [← eh]
  unfold i9 fls
  simp only [v_sIf, v_tOr, n1, Res.bind_ok, Bool.false_eq_true, if_false, n2, v_tBl, v_mOp2, v_mN, v_aCons, v_aNil, a6, ep, v_fTup, List.length_nil, b0, if_true, e4, Res.toS_ok, v_sNil]
/-! the law's due places -/
noncomputable def dB : Ms := sSeq (sIf (tAndM (tBl (mOp2 fEq (mOp2 fIx (mV 11) (mC (.int 0))) (mC (.str "barrier")))) (tBl (mOp2 fNotIn (mV 10) (mV 9)))) (sSeq (sExpr (mBM fApp (mV 9) (aCons (mV 10) aNil))) sNil) sNil) (sSeq (sSet 10 (mOp2 fAdd (mV 10) (mN fInt (aCons (mOp2 fNe (mOp2 fIx (mV 11) (mC (.int 0))) (mC (.str "barrier"))) aNil)))) sNil)
theorem dB_ok {S : List Nat × Nat} {x : Stp} (hS : S.1.length ≤ 500) (g9 : G[9]? = some (some (.loc hh.length))) (g10 : G[10]? = some (some (.int (S.2 : Int)))) (g11 : G[11]? = some (some (stD x))) :
    dB G (hh ++ AO.lst (S.1.map nD) :: []) = .next (G.set 10 (some (.int ((plS S x).2 : Int)))) (hh ++ AO.lst ((plS S x).1.map nD) :: []) := by
  obtain ⟨h2, eh2⟩ : ∃ h2, h2 = hh ++ AO.lst (S.1.map nD) :: [] := ⟨_, rfl⟩
  have gD : h2[hh.length]? = some (.lst (S.1.map nD)) := by rw [eh2]; exact get_new
  have ib := is_bar (h := h2) x
  have nb := ne_bar (h := h2) x
  have ni := notin_nO gD S.2
  have ec : (tAndM (tBl (mOp2 fEq (mOp2 fIx (mV 11) (mC (.int 0))) (mC (.str "barrier")))) (tBl (mOp2 fNotIn (mV 10) (mV 9)))) G h2 = .ok (isBar x && !decide (S.2 ∈ S.1)) h2 := by
    cases cx : isBar x with
    | false =>
      rw [cx] at ib
      simp only [v_tAnd, v_tBl, v_mOp2, v_mV, v_mC, g11, Res.bind_ok, stD_0, ib, Bool.false_eq_true, if_false, Bool.false_and]
    | true =>
      rw [cx] at ib
      simp only [v_tAnd, v_tBl, v_mOp2, v_mV, v_mC, g11, g10, g9, Res.bind_ok, stD_0, ib, if_true, ni, Bool.true_and]
  have eS : ∀ (h3 : AH), fNe (.str x.nm) (.str "barrier") h3 = .ok (.bl (!isBar x)) h3 → (sSet 10 (mOp2 fAdd (mV 10) (mN fInt (aCons (mOp2 fNe (mOp2 fIx (mV 11) (mC (.int 0))) (mC (.str "barrier"))) aNil)))) G h3 = .next (G.set 10 (some (.int ((plS S x).2 : Int)))) h3 := by
    intro h3 nb
    have e2 : (S.2 : Int) + (if (!isBar x) = true then 1 else 0) = ((plS S x).2 : Int) := by
      unfold plS
      cases isBar x with
      | true => simp
      | false => simp
    simp only [v_sSet, v_mOp2, v_mN, v_aCons, v_aNil, v_mV, v_mC, g10, g11, Res.bind_ok, stD_0, nb, v_intB, v_add, e2, Res.toS_ok]
  rw [← eh2]
  unfold dB
  by_cases c : (isBar x && !decide (S.2 ∈ S.1)) = true
  · rw [c] at ec
    obtain ⟨c1, c2⟩ := Bool.and_eq_true_iff.mp c
    have c3 : S.2 ∉ S.1 := by simpa using c2
    have ea := appD_ok (hh := hh) (tl := []) (tl' := []) (ds := S.1.map nD) (d := nD S.2) (i := 9) (mk := mV 10) (G := G) (by rw [List.length_map]; omega) g9 (by rw [v_mV, g10]; rfl)
    rw [← eh2] at ea
    have e1 : (plS S x).1 = S.1 ++ [S.2] := by
      unfold plS addK
      rw [if_pos c1]
      exact if_neg c3
    have e2 : hh ++ AO.lst ((plS S x).1.map nD) :: [] = hh ++ AO.lst (S.1.map nD ++ [nD S.2]) :: [] := by rw [e1, List.map_append]; rfl
    rw [e2]
    have := eS (hh ++ AO.lst (S.1.map nD ++ [nD S.2]) :: []) (ne_bar x)
    simp only [v_sSeq, v_sIf, ec, Res.toS_ok, if_true, ea, SR.andThen_next, v_sNil, this]
  · have c : (isBar x && !decide (S.2 ∈ S.1)) = false := by simpa using c
    rw [c] at ec
    have e1 : (plS S x).1 = S.1 := by
      unfold plS addK
      cases cx : isBar x with
      | false => rw [if_neg (by decide)]
      | true =>
        rw [cx, Bool.true_and] at c
        have c3 : S.2 ∈ S.1 := by simpa using c
        rw [if_pos rfl]
        exact if_pos c3
    rw [e1, ← eh2]
    have := eS h2 nb
    simp only [v_sSeq, v_sIf, ec, Res.toS_ok, Bool.false_eq_true, if_false, SR.andThen_next, v_sNil, this]
end
end My
/-! a turn's statements: the lot, what is told, odd things -/
namespace My
open PySem hiding Tree
open AB L2
open R
section
variable {cs : List Int} {hh : AH} {G : AB.Env} {nP F n : Nat} {K : List (Option Val)} {xs : List Stp} {L M : List Nat}
noncomputable def i13 : Ms := fls (tBl (mOp2 fNe (mN m_places (aCons (mV 7) aNil)) (mN fTuple (aCons (mV 9) aNil))))
theorem i13_ok (hl : xs.length ≤ 200) (gP : hh[nP]? = some (.ins "Plan" (planF K xs))) {nD' : Nat} (gD : hh[nD']? = some (.lst ((plF xs).1.map nD))) (g7 : G[7]? = some (some (.loc nP))) (g9 : G[9]? = some (some (.loc nD'))) :
    i13 G hh = .next G hh := by
  have ep := placesA_ok gP (by omega)
  unfold i13 fls
  simp only [v_sIf, v_tBl, v_mOp2, v_mN, v_aCons, v_aNil, v_mV, g7, g9, Res.bind_ok, ep, v_tuple, v_vSo, gD, (da_ns _).ne, Bool.false_eq_true, if_false, Res.toS_ok, v_sNil]
noncomputable def i16 : Ms := fls (tOrM (tBl (mOp2 fNe (mMeth [("Plan", m_Plan_steps), ("RawPlan", m_Plan_steps)] "steps" (mV 13) aNil) (mN m__law_with (aCons (mV 8) (aCons (mV 12) aNil))))) (tOrM (tBl (mOp2 fNe (mMeth [("Plan", m_Plan_state), ("RawPlan", m_Plan_state)] "state" (mV 13) aNil) (mV 5))) (tBl (mOp2 fNe (mN m_places (aCons (mV 13) aNil)) (mV 12)))))
theorem i16_ok (hl : xs.length ≤ 200) (hA : Asc L) (hL : ∀ q ∈ L, q ≤ (bareL xs).length) (hLl : L.length ≤ 300) (gF : hh[F]? = some (.ins "RawPlan" (planF K (withL L (bareL xs))))) (g5 : G[5]? = some (some (.tup (K.map hvD)))) (g8 : G[8]? = some (some (.tup ((bareL xs).map stD)))) (g12 : G[12]? = some (some (.tup (L.map nD)))) (g13 : G[13]? = some (some (.loc F))) :
    i16 G hh = .next G hh := by
  have few := withL_few L (bareL xs)
  have lb : (bareL xs).length ≤ xs.length := List.length_filter_le _ _
  have hb : Bare (bareL xs) := bareL_bare xs
  have es := stepsMt_ok (G := G) (i := 13) g13 gF
  have et := stateMt_ok (G := G) (i := 13) g13 gF
  have ew := law_with_ok (memT L) (by omega : (bareL xs).length ≤ 200) hh
  have ep := placesA_ok gF (by omega)
  rw [plF_withL hb hA hL] at ep
  unfold i16 fls
  simp only [v_sIf, v_tOr, v_tBl, v_mOp2, es, et, v_mN, v_aCons, v_aNil, v_mV, g5, g8, g12, g13, Res.bind_ok, ew, (da_steps _).ne, (da_state _).ne, ep, (da_ns L).ne, Bool.false_eq_true, if_false, Res.toS_ok, v_sNil]
noncomputable def i17 : Ms := fls (tOrM (neB (bareM (mV 13)) (bareM (mV 7))) (tBl (mOp2 cGt (mN fLen (aCons (mMeth [("Plan", m_Plan_steps), ("RawPlan", m_Plan_steps)] "steps" (mN m_with_barriers (aCons (mV 7) (aCons (mN fTuple (aCons (mV 9) aNil)) aNil))) aNil) aNil)) (mN fLen (aCons (mV 6) aNil)))))
theorem i17_ok (hl : xs.length ≤ 200) (hLl : L.length ≤ 300) (gP : hh[nP]? = some (.ins "Plan" (planF K xs))) (gF : hh[F]? = some (.ins "RawPlan" (planF K (withL L (bareL xs))))) {nD' : Nat} (gD : hh[nD']? = some (.lst ((plF xs).1.map nD)))
    (g6 : G[6]? = some (some (.tup (xs.map stD)))) (g7 : G[7]? = some (some (.loc nP))) (g9 : G[9]? = some (some (.loc nD'))) (g13 : G[13]? = some (some (.loc F))) : ∃ t, i17 G hh = .next G (hh ++ t) := by
  have few := withL_few L (bareL xs)
  have lb : (bareL xs).length ≤ xs.length := List.length_filter_le _ _
  have hb : Bare (bareL xs) := bareL_bare xs
  have v7 : ∀ h : AH, (mV 7) G h = .ok (.loc nP) h := fun h => by simp only [v_mV, g7]
  have v13 : ∀ h : AH, (mV 13) G h = .ok (.loc F) h := fun h => by simp only [v_mV, g13]
  have a1 := bareM_ok (v13 hh) gF (by omega)
  rw [bare_with hb] at a1
  obtain ⟨h1, eh1⟩ : ∃ h1, h1 = hh ++ [AO.ins "RawPlan" (planF K (bareL xs))] := ⟨_, rfl⟩
  have x1 : h1[hh.length]? = some (.ins "RawPlan" (planF K (bareL xs))) := by rw [eh1]; exact get_new
  have p1 : h1[nP]? = some (.ins "Plan" (planF K xs)) := by rw [eh1]; exact get_app gP
  rw [← eh1] at a1
  have a2 := bareM_ok (v7 h1) p1 (by omega)
  obtain ⟨h2, eh2⟩ : ∃ h2, h2 = h1 ++ [AO.ins "RawPlan" (planF K (bareL xs))] := ⟨_, rfl⟩
  have x2 : h2[h1.length]? = some (.ins "RawPlan" (planF K (bareL xs))) := by rw [eh2]; exact get_new
  have x2' : h2[hh.length]? = some (.ins "RawPlan" (planF K (bareL xs))) := by rw [eh2]; exact get_app x1
  have p2 : h2[nP]? = some (.ins "Plan" (planF K xs)) := by rw [eh2]; exact get_app p1
  have d2 : h2[nD']? = some (.lst ((plF xs).1.map nD)) := by rw [eh2, eh1]; exact get_app (get_app gD)
  rw [← eh2] at a2
  have n1 := neB_ok a1 a2 x2' x2
  have hp := plF_few xs
  obtain ⟨F2, T, e3, gF2⟩ := with_barriers_ok (n := 0) p2 (by omega) (by omega) (plF_asc xs).1 (fun q hq => plF_le hq) (by omega)
  have e4 : (mN m_with_barriers (aCons (mV 7) (aCons (mN fTuple (aCons (mV 9) aNil)) aNil))) G h2 = .ok (.loc F2) (h2 ++ T) := by
    simp only [v_mN, v_aCons, v_aNil, v_mV, g7, g9, Res.bind_ok, v_tuple, v_vSo, d2, e3]
  have e5 := meth_any (G := G) (fn := m_Plan_steps) (f := "steps") (by decide +kernel) (by decide +kernel) e4 gF2 (stepsF_ok gF2)
  have l5 : fLen [.tup ((withL (plF xs).1 (bareL xs)).map stD)] (h2 ++ T) = .ok (.int ((withL (plF xs).1 (bareL xs)).length : Int)) (h2 ++ T) := by simp
  have l6 : fLen [.tup (xs.map stD)] (h2 ++ T) = .ok (.int (xs.length : Int)) (h2 ++ T) := by simp
  have few2 := withL_few (plF xs).1 (bareL xs)
  have cg : decide ((xs.length : Int) < ((withL (plF xs).1 (bareL xs)).length : Int)) = false := decide_eq_false (by omega)
  refine ⟨[AO.ins "RawPlan" (planF K (bareL xs)), AO.ins "RawPlan" (planF K (bareL xs))] ++ T, ?_⟩
  have eh : hh ++ ([AO.ins "RawPlan" (planF K (bareL xs)), AO.ins "RawPlan" (planF K (bareL xs))] ++ T) = h2 ++ T := by rw [eh2, eh1]; simp
  rw [eh]
  unfold i17 fls
  simp only [v_sIf, v_tOr, n1, Res.bind_ok, Bool.false_eq_true, if_false, v_tBl, v_mOp2, v_mN, v_aCons, v_aNil, v_mV, g6, e5, l5, l6, v_cGt, cg, Res.toS_ok, v_sNil]
/-! odd things -/
noncomputable def oddL (L : List Nat) (b : Nat) (n : Nat) : List D := [.lst (L.map nD), .tup ((L ++ L).map nD), .tup ((L ++ [b + 1]).map nD), .tup [.int (-1)], .tup [.bl true], .non, .str "01", .tup [.str "0"], .tup ([1, 0].map nD), .loc n]
noncomputable def t18 : Ms := sSet 14 (mL (lLst (aCons (mL (lN lList (aCons (mV 12) aNil))) (aCons (mOp2 fAdd (mV 12) (mV 12)) (aCons (mOp2 fAdd (mV 12) (mN fTup (aCons (mOp2 fAdd (mN fLen (aCons (mV 8) aNil)) (mC (.int 1))) aNil))) (aCons (mN fTup (aCons (mOp1 fNeg (mC (.int 1))) aNil)) (aCons (mN fTup (aCons (mC (.bl true)) aNil)) (aCons (mC .non) (aCons (mC (.str "01")) (aCons (mN fTup (aCons (mC (.str "0")) aNil)) (aCons (mN fTup (aCons (mC (.int 1)) (aCons (mC (.int 0)) aNil))) (aCons mDNew aNil))))))))))))
theorem t18_ok {bs : List Stp} (hLl : L.length ≤ 300) (g8 : G[8]? = some (some (.tup (bs.map stD)))) (g12 : G[12]? = some (some (.tup (L.map nD)))) : t18 G hh = .next (G.set 14 (some (.lst (oddL L bs.length hh.length)))) (hh ++ [AO.dct []]) := by
  have b0 : (0 : Nat) ≤ big := by decide
  have b1 : (1 : Nat) ≤ big := by decide
  have b2 : (2 : Nat) ≤ big := by decide
  have b10 : (10 : Nat) ≤ big := by decide
  have x1 : fAdd (.tup (L.map nD)) (.tup (L.map nD)) hh = .ok (.tup ((L ++ L).map nD)) hh := by
    rw [v_addT, if_pos (by rw [List.length_map, big_eq]; omega), List.map_append]
  have l8 : fLen [.tup (bs.map stD)] hh = .ok (.int (bs.length : Int)) hh := by simp
  have x2 : fAdd (.tup (L.map nD)) (.tup [.int ((bs.length : Int) + 1)]) hh = .ok (.tup ((L ++ [bs.length + 1]).map nD)) hh := by
    rw [v_addT, if_pos (by rw [List.length_map, big_eq]; simp; omega), List.map_append]
    rfl
  unfold t18 oddL
  simp only [v_sSet, v_mL, v_lLst, v_aCons, v_aNil, v_lN, v_list, v_vSt, v_mOp2, v_mOp1, v_mN, v_mC, v_mV, g8, g12, Res.bind_ok, x1, l8, v_add, v_fTup, List.length_cons, List.length_nil, Nat.zero_add, Nat.reduceAdd, b0, b1, b2, b10, if_true, x2, v_neg, v_mDNew, Res.toS_ok]
  rfl
noncomputable def i20 : Ms := sIf (tAndM (tBl (mOp2 fEqE (mV 15) (mN fTup aNil))) (tOf (mIsi .tup (mV 15)))) (sSeq (sSet 15 (mN fTup (aCons (mC (.int 0)) (aCons (mC (.int 0)) aNil)))) sNil) sNil
theorem i20_no {d : D} (g15 : G[15]? = some (some d)) (e : fEqE d (.tup []) hh = .ok (.bl false) hh) : i20 G hh = .next G hh := by
  have b0 : (0 : Nat) ≤ big := by decide
  unfold i20
  simp only [v_sIf, v_tAnd, v_tBl, v_mOp2, v_mV, g15, v_mN, v_aNil, Res.bind_ok, v_fTup, List.length_nil, b0, if_true, e, Bool.false_eq_true, if_false, Res.toS_ok, v_sNil]
theorem i20_yes (g15 : G[15]? = some (some (.tup []))) : i20 G hh = .next (G.set 15 (some (.tup ([0, 0].map nD)))) hh := by
  have b0 : (0 : Nat) ≤ big := by decide
  have b2 : (2 : Nat) ≤ big := by decide
  have e : fEqE (.tup []) (.tup []) hh = .ok (.bl true) hh := (da_ns []).eq
  have ts : Ty.tup.sub .tup = true := rfl
  unfold i20
  simp only [v_sIf, v_tAnd, v_tBl, v_mOp2, v_mV, g15, v_mN, v_aCons, v_aNil, v_mC, Res.bind_ok, v_fTup, List.length_nil, List.length_cons, Nat.zero_add, Nat.reduceAdd, b0, b2, if_true, e, v_tOf, v_mIsi, v_tyT, ts, v_truB, Res.toS_ok, v_sSeq, v_sSet, SR.andThen_next, v_sNil]
  rfl
theorem eq_nilT {d : D} {p : PyData} (w : okP hh d = some p) (hd : ∀ n, d ≠ .loc n) (hp : PyData.eqv p (.tuple []) = false) : fEqE d (.tup []) hh = .ok (.bl false) hh := by
  have e : fEqE d (.tup []) hh = fEq d (.tup []) hh := by
    cases d with
    | loc n => exact absurd rfl (hd n)
    | _ => rfl
  have e0 : okP hh (.tup []) = some (.tuple []) := (da_ns []).okP
  rw [e]
  unfold fEq
  rw [w, e0]
  simp only [hp]
end
end My
/-! odd things are no places -/
namespace My
open PySem hiding Tree
open AB L2
open R
theorem asc_of_zip : ∀ {M : List Nat}, (∀ p ∈ M.zip (M.drop 1), p.1 < p.2) → Asc M
  | [], _ => .nil
  | [a], _ => List.pairwise_singleton _ _
  | a :: b :: M, h => by
    have h1 : a < b := h (a, b) (by simp)
    have ih : Asc (b :: M) := asc_of_zip fun p hp => h p (by
      show p ∈ (a, b) :: ((b :: M).zip M)
      exact List.mem_cons_of_mem _ hp)
    refine List.pairwise_cons.mpr ⟨fun q hq => ?_, ih⟩
    rcases List.mem_cons.mp hq with rfl | hq
    · exact h1
    · exact Nat.lt_trans h1 ((List.pairwise_cons.mp ih).1 q hq)
theorem not_asc {M : List Nat} (h : ¬ Asc M) : (M.zip (M.drop 1)).any (fun p => decide (p.2 ≤ p.1)) = true := by
  cases e : (M.zip (M.drop 1)).any (fun p => decide (p.2 ≤ p.1)) with
  | true => rfl
  | false =>
    rw [List.any_eq_false] at e
    exact absurd (asc_of_zip fun p hp => by have := e p hp; simp at this; omega) h
section
variable {hh : AH} {G : AB.Env} {nP : Nat} {K : List (Option Val)} {xs : List Stp} {L : List Nat}
noncomputable def inB (b : Nat) : D → Bool
  | .int i => decide (0 ≤ i) && decide (i ≤ ((b : Int) + 1) - 1)
  | _ => false
theorem index_bl (b : Bool) (n : Int) : m_is_index [.bl b, .int n] hh = .ok (.bl false) hh := by
  simp [m_is_index, b_is_index, m_is_between, b_is_between, m_is_integer, b_is_integer, mDef, Ty.sub]
theorem index_str (x : Str) (n : Int) : m_is_index [.str x, .int n] hh = .ok (.bl false) hh := by
  have t : tyD hh (.str x) = some .str := rfl
  simp [m_is_index, b_is_index, m_is_between, b_is_between, m_is_integer, b_is_integer, mDef, t, Ty.sub]
theorem inB_nat (b : Nat) (L : List Nat) : ∀ d ∈ L.map nD, m_is_index [d, .int ((b : Int) + 1)] hh = .ok (.bl (inB b d)) hh := by
  intro d hd
  obtain ⟨q, _, rfl⟩ := List.mem_map.mp hd
  exact is_index_ok (q : Int) ((b : Int) + 1)
theorem sh_01 : SeqAt.shaped (.str "01") = true := by decide +kernel
theorem ex_15 {d : D} (g15 : G[15]? = some (some d)) (e : fEqE d (.tup []) hh = .ok (.bl false) hh) : i20 G hh = .next (G.set 15 (some d)) hh := by
  have : G.set 15 (some d) = G := by
    apply List.ext_getElem?
    intro i
    rw [List.getElem?_set]
    by_cases c : 15 = i
    · subst c
      rw [if_pos rfl, g15]
      have : 15 < G.length := (List.getElem?_eq_some_iff.mp g15).1
      simp [this]
    · rw [if_neg c]
  rw [this]
  exact i20_no g15 e
theorem odd_ok (hl : xs.length ≤ 200) (gP : hh[nP]? = some (.ins "Plan" (planF K xs))) (hL : ∀ q ∈ L, q ≤ (bareL xs).length) (hLl : L.length ≤ 300) {nd : Nat} (gd : hh[nd]? = some (.dct [])) {d : D} (hd : d ∈ oddL L (bareL xs).length nd) (g15 : G[15]? = some (some d)) :
    ∃ d', i20 G hh = .next (G.set 15 (some d')) hh ∧ m_check_places [.loc nP, d'] hh = .exc "NoPlaces" [] hh := by
  have hl' : xs.length ≤ 1000 := by omega
  obtain ⟨b, eb⟩ : ∃ b, b = (bareL xs).length := ⟨_, rfl⟩
  have item : ∀ (ds : List D), (∀ d ∈ ds, m_is_index [d, .int ((b : Int) + 1)] hh = .ok (.bl (inB b d)) hh) → ds.length ≤ 1000 → ds.all (inB b) = false → m_check_places [.loc nP, .tup ds] hh = .exc "NoPlaces" [] hh := by
    intro ds h1 h2 h3
    rw [eb] at h1 h3
    exact cp_item gP hl' _ h1 h2 h3
  have order : ∀ (M : List Nat), ¬ Asc M → (∀ q ∈ M, q ≤ b) → M.length ≤ 1000 → m_check_places [.loc nP, .tup (M.map nD)] hh = .exc "NoPlaces" [] hh := by
    intro M h1 h2 h3
    rw [eb] at h2
    exact cp_order gP hl' (not_asc h1) h2 h3
  rw [← eb] at hd hL
  unfold oddL at hd
  simp only [List.mem_cons, List.not_mem_nil, or_false] at hd
  rcases hd with rfl | rfl | rfl | rfl | rfl | rfl | rfl | rfl | rfl | rfl
  · exact ⟨_, ex_15 g15 (eq_nilT (okP_nL L) (fun _ z => by cases z) rfl), cp_kind gP hl' rfl⟩
  · cases L with
    | nil =>
      refine ⟨_, i20_yes g15, order [0, 0] (fun z => ?_) (fun q hq => ?_) (by decide)⟩
      · have := (List.pairwise_cons.mp z).1 0 List.mem_cons_self
        omega
      · have : q = 0 := by simpa using hq
        omega
    | cons q L =>
      refine ⟨_, ex_15 g15 (eq_nilT (okP_nT _) (fun _ z => by cases z) rfl), order _ (fun z => ?_) (fun r hr => ?_) (by rw [List.length_append]; omega)⟩
      · have := (List.pairwise_append.mp z).2.2 q List.mem_cons_self q List.mem_cons_self
        omega
      · rcases List.mem_append.mp hr with hr | hr <;> exact hL r hr
  · refine ⟨_, ex_15 g15 (eq_nilT (okP_nT _) (fun _ z => by cases z) ?_), item _ (inB_nat b _) (by simp; omega) ?_⟩
    · cases L <;> rfl
    · rw [List.all_eq_false]
      refine ⟨nD (b + 1), List.mem_map.mpr ⟨b + 1, by simp, rfl⟩, ?_⟩
      unfold nD inB
      simp
      omega
  · have e1 : okP hh (.tup [.int (-1)]) = some (.tuple [.int (-1)]) := rfl
    refine ⟨_, ex_15 g15 (eq_nilT e1 (fun _ z => by cases z) rfl), item _ (fun d hd => ?_) (by decide) rfl⟩
    rw [List.mem_singleton.mp hd]
    exact is_index_ok (-1) ((b : Int) + 1)
  · have e1 : okP hh (.tup [.bl true]) = some (.tuple [.bool true]) := rfl
    refine ⟨_, ex_15 g15 (eq_nilT e1 (fun _ z => by cases z) rfl), item _ (fun d hd => ?_) (by decide) rfl⟩
    rw [List.mem_singleton.mp hd]
    exact index_bl true _
  · have e1 : okP hh .non = some .none := rfl
    exact ⟨_, ex_15 g15 (eq_nilT e1 (fun _ z => by cases z) rfl), cp_kind gP hl' rfl⟩
  · exact ⟨_, ex_15 g15 (eq_nilT (okP_str sh_01) (fun _ z => by cases z) rfl), cp_kind gP hl' rfl⟩
  · have e1 : okP hh (.tup [.str "0"]) = some (.tuple [.str "0"]) := by
      unfold okP
      exact if_pos (by decide +kernel)
    refine ⟨_, ex_15 g15 (eq_nilT e1 (fun _ z => by cases z) rfl), item _ (fun d hd => ?_) (by decide) rfl⟩
    rw [List.mem_singleton.mp hd]
    exact index_str _ _
  · refine ⟨_, ex_15 g15 (eq_nilT (okP_nT [1, 0]) (fun _ z => by cases z) rfl), ?_⟩
    by_cases c : 1 ≤ b
    · refine order [1, 0] (fun z => ?_) (fun q hq => ?_) (by decide)
      · have := (List.pairwise_cons.mp z).1 0 List.mem_cons_self
        omega
      · have : q = 1 ∨ q = 0 := by simpa using hq
        omega
    · refine item _ (inB_nat b _) (by decide) ?_
      have : b = 0 := by omega
      subst this
      rfl
  · have e1 : fEqE (.loc nd) (.tup []) hh = .ok (.bl false) hh := by
      have : dctAt hh nd = some [] := by unfold dctAt; rw [gd]
      unfold fEqE
      simp only [this]
    refine ⟨_, ex_15 g15 e1, cp_kind gP hl' ?_⟩
    unfold tyDC
    simp only [gd]
    rfl
end
end My
/-! a turn; the law -/
namespace My
open PySem hiding Tree
open AB L2
open R
theorem vals_of (zs : List (Nat × D)) (h : ∀ z ∈ zs, ∃ v : Val, z.2 = vD v ∧ VOk v) : ∃ K : List (Option Val), zs.map (·.2) = K.map hvD ∧ (∀ o ∈ K, HOkV o) ∧ none ∉ K ∧ K.length = zs.length := by
  induction zs with
  | nil => exact ⟨[], rfl, by simp, by simp, rfl⟩
  | cons z zs ih =>
    obtain ⟨K, e, hK, hn, hl⟩ := ih fun y hy => h y (List.mem_cons_of_mem _ hy)
    obtain ⟨v, ev, hv⟩ := h z List.mem_cons_self
    refine ⟨some v :: K, by simp [ev, e, hvD], fun j hj => ?_, by simp [hn], by simp [hl]⟩
    rcases List.mem_cons.mp hj with rfl | hj
    · exact hv
    · exact hK j hj
section
variable {cs : List Int} {P : AO} {tl : AH} {g0 g1 g2 g3 g4 g5 g6 g7 g8 g9 g10 g11 g12 g13 g14 g15 g16 g17 : Option D}
noncomputable def t3 : Ms := sSet 3 (mOp2 fAdd (mC (.int 1)) (mN m__law_draw (aCons (mV 1) (aCons (mC (.int 3)) aNil))))
noncomputable def t4 : Ms := sSet 4 (mL (lN m__law_pool (aCons (mV 1) aNil)))
noncomputable def t5e : Me := mN m__law_any (aCons (mV 1) (aCons (mV 4) aNil))
noncomputable def t5 : Ms := sSet 5 (mN fTuple (aCons (mL (lComp (.nm 16) [16] (iRange1 (aCons (mV 3) aNil)) tYesM t5e)) aNil))
noncomputable def t6 : Ms := sSet 6 (mN m__law_steps (aCons (mV 1) (aCons (mV 4) (aCons (mV 3) (aCons (mN m__law_draw (aCons (mV 1) (aCons (mC (.int 15)) aNil))) aNil)))))
noncomputable def t7 : Ms := sSet 7 (mMake "Plan" m_Plan___init__ (aCons (mV 5) (aCons (mV 6) aNil)))
noncomputable def t8 : Ms := sSet 8 (mN m__law_bare (aCons (mV 6) aNil))
noncomputable def t10 : Ms := sSet 9 (mNew (lLst aNil))
noncomputable def t11 : Ms := sSet 10 (mC (.int 0))
noncomputable def f12 : Ms := sFor (.nm 11) (iSeq (mV 6)) dB
noncomputable def t14t : MeT := tBl (mOp2 fEq (mN m__law_draw (aCons (mV 1) (aCons (mC (.int 3)) aNil))) (mC (.int 0)))
noncomputable def t14 : Ms := sSet 12 (mN fTuple (aCons (mL (lComp (.nm 17) [17] (iRange1 (aCons (mOp2 fAdd (mN fLen (aCons (mV 8) aNil)) (mC (.int 1))) aNil)) t14t (mV 17))) aNil))
noncomputable def t15 : Ms := sSet 13 (mN m_with_barriers (aCons (mV 7) (aCons (mV 12) aNil)))
noncomputable def t19 : Ms := sSet 15 (mOp2 fIx (mV 14) (mN m__law_draw (aCons (mV 1) (aCons (mC (.int 10)) aNil))))
noncomputable def i21 : Ms := fls (tBl (mOp2 fNe (mN m__law_told (aCons (mV 7) (aCons (mV 15) aNil))) (mC (.str "none"))))
noncomputable def tB : Ms := sSeq t3 (sSeq t4 (sSeq t5 (sSeq t6 (sSeq t7 (sSeq t8 (sSeq i9 (sSeq t10 (sSeq t11 (sSeq f12 (sSeq i13 (sSeq t14 (sSeq t15 (sSeq i16 (sSeq i17 (sSeq t18 (sSeq t19 (sSeq i20 (sSeq i21 sNil))))))))))))))))))
noncomputable def lng : Ms := sIf (tAndM (tBl (mOp2 fEq (mN m__law_draw (aCons (mV 1) (aCons (mC (.int 12)) aNil))) (mC (.int 0)))) (tNotM (tOf (mN m__law_long_right (aCons (mV 1) aNil))))) (sSeq (sRet (mC (.bl false))) sNil) sNil
theorem law_eq : b_law = sSeq (sSet 1 (mNew (lN m__law_hand (aCons (mV 0) aNil)))) (sSeq lng (sSeq (sFor (.nm 2) (iRange1 (aCons (mC (.int 4)) aNil)) tB) (sSeq (sRet (mC (.bl true))) sNil))) := rfl
theorem t5_ok (hc : ∀ c ∈ cs, 0 ≤ c) (hP : IsP cs P) (tl : AH) {V : List Val} (hL : ∀ v ∈ V, VOk v) (l1 : 1 ≤ V.length) (l2 : V.length ≤ 3) {n : Nat} (n2 : n ≤ 64) :
    ∃ (K : List (Option Val)) (P' : AO), t5 [g0, some (.loc 0), g2, some (.int (n : Int)), some (.lst (V.map vD)), g5, g6, g7, g8, g9, g10, g11, g12, g13, g14, g15, g16, g17] (P :: tl) = .next [g0, some (.loc 0), g2, some (.int (n : Int)), some (.lst (V.map vD)), some (.tup (K.map hvD)), g6, g7, g8, g9, g10, g11, g12, g13, g14, g15, g16, g17] (P' :: tl) ∧ IsP cs P' ∧ K.length = n ∧ (∀ o ∈ K, HOkV o) ∧ none ∉ K := by
  obtain ⟨zs, h', e2, ⟨P2, hP2, rfl⟩, e3, hz⟩ := comp_gen (p := .nm 16) (e := t5e) (all0 := (List.range n).map fun i : Nat => D.int (i : Int)) (G0 := [g0, some (.loc 0), g2, some (.int (n : Int)), some (.lst (V.map vD)), g5, g6, g7, g8, g9, g10, g11, g12, g13, g14, g15, none, g17]) (I := fun h => ∃ P', IsP cs P' ∧ h = P' :: tl)
    (R := fun (_ : Nat) d => ∃ v : Val, d = vD v ∧ VOk v) (fun i : Nat => D.int (i : Int)) (List.range n)
    (by
      rintro i hi h ⟨P', hP', rfl⟩
      obtain ⟨x, P2, e, hP2, hx⟩ := any_ok hc hP' (V.map vD) (by rw [List.length_map]; exact l1) (by rw [List.length_map]; omega) tl
      obtain ⟨v, hv, rfl⟩ := List.mem_map.mp hx
      refine ⟨[g0, some (.loc 0), g2, some (.int (n : Int)), some (.lst (V.map vD)), g5, g6, g7, g8, g9, g10, g11, g12, g13, g14, g15, some (.int (i : Int)), g17], vD v, P2 :: tl, rfl, ?_, ⟨P2, hP2, rfl⟩, v, rfl, hL v hv⟩
      unfold t5e
      simp only [v_mN, v_aCons, v_aNil, v_mV, List.getElem?_cons_succ, List.getElem?_cons_zero, Res.bind_ok, e])
    (P :: tl) ⟨P, hP, rfl⟩
  obtain ⟨K, eK, hK, hn, lK⟩ := vals_of zs hz
  have lz : zs.length = n := by
    have := congrArg List.length e3
    simpa using this
  rw [eK] at e2
  refine ⟨K, P2, ?_, hP2, by omega, hK, hn⟩
  have er : rangeD 0 n = (List.range n).map fun i : Nat => D.int (i : Int) := rangeD_eq n
  have c1 : okR (n : Int) := ⟨by omega, by omega⟩
  have ln : ((List.range n).map fun i : Nat => D.int (i : Int)).length ≤ big := by rw [List.length_map, List.length_range, big_eq]; omega
  have w : wipeG [g0, some (.loc 0), g2, some (.int (n : Int)), some (.lst (V.map vD)), g5, g6, g7, g8, g9, g10, g11, g12, g13, g14, g15, g16, g17] [16] = [g0, some (.loc 0), g2, some (.int (n : Int)), some (.lst (V.map vD)), g5, g6, g7, g8, g9, g10, g11, g12, g13, g14, g15, none, g17] := rfl
  have ei : (iRange1 (aCons (mV 3) aNil)) [g0, some (.loc 0), g2, some (.int (n : Int)), some (.lst (V.map vD)), g5, g6, g7, g8, g9, g10, g11, g12, g13, g14, g15, g16, g17] (P :: tl) = .ok ((List.range n).map fun i : Nat => D.int (i : Int), none) (P :: tl) := by
    rw [v_range1]
    simp only [v_aCons, v_aNil, v_mV, List.getElem?_cons_succ, List.getElem?_cons_zero, Res.bind_ok, c1, if_true]
    show Res.ok (rangeD 0 (n : Int).toNat, none) _ = _
    rw [Int.toNat_natCast, er]
  unfold t5
  simp only [v_sSet, v_mN, v_aCons, v_aNil, v_mL, v_lComp, ei, Res.bind_ok, ln, if_true, w, e2, v_tuple, v_vSl, Res.toS_ok, List.set_cons_succ, List.set_cons_zero]
theorem t14_ok (hc : ∀ c ∈ cs, 0 ≤ c) (hP : IsP cs P) (tl : AH) {bs : List Stp} (hb : bs.length ≤ 200) :
    ∃ (L : List Nat) (P' : AO), t14 [g0, some (.loc 0), g2, g3, g4, g5, g6, g7, some (.tup (bs.map stD)), g9, g10, g11, g12, g13, g14, g15, g16, g17] (P :: tl) = .next [g0, some (.loc 0), g2, g3, g4, g5, g6, g7, some (.tup (bs.map stD)), g9, g10, g11, some (.tup (L.map nD)), g13, g14, g15, g16, g17] (P' :: tl) ∧ IsP cs P' ∧ L.Sublist (List.range (bs.length + 1)) := by
  obtain ⟨L, h', e2, ⟨P2, hP2, rfl⟩, sl⟩ := comp_inv (p := .nm 17) (t := t14t) (e := mV 17) (all0 := (List.range (bs.length + 1)).map fun i : Nat => D.int (i : Int)) (G0 := [g0, some (.loc 0), g2, g3, g4, g5, g6, g7, some (.tup (bs.map stD)), g9, g10, g11, g12, g13, g14, g15, g16, none]) (I := fun h => ∃ P', IsP cs P' ∧ h = P' :: tl)
    (fun i : Nat => D.int (i : Int)) nD (List.range (bs.length + 1))
    (by
      rintro i hi h ⟨P', hP', rfl⟩
      obtain ⟨r, P2, e, hP2, r0, r1⟩ := draw_ok hc hP' (many := 3) (by omega) (by omega) tl
      refine ⟨[g0, some (.loc 0), g2, g3, g4, g5, g6, g7, some (.tup (bs.map stD)), g9, g10, g11, g12, g13, g14, g15, g16, some (.int (i : Int))], decide (r = 0), P2 :: tl, rfl, ?_, ⟨P2, hP2, rfl⟩, fun _ => ⟨_, rfl, P2, hP2, rfl⟩⟩
      unfold t14t
      simp only [v_tBl, v_mOp2, v_mN, v_aCons, v_aNil, v_mV, v_mC, List.getElem?_cons_succ, List.getElem?_cons_zero, Res.bind_ok, e, v_eq])
    (P :: tl) ⟨P, hP, rfl⟩
  refine ⟨L, P2, ?_, hP2, sl⟩
  have er : rangeD 0 (bs.length + 1) = (List.range (bs.length + 1)).map fun i : Nat => D.int (i : Int) := rangeD_eq _
  have c1 : okR ((bs.length : Int) + 1) := ⟨by omega, by omega⟩
  have ln : ((List.range (bs.length + 1)).map fun i : Nat => D.int (i : Int)).length ≤ big := by rw [List.length_map, List.length_range, big_eq]; omega
  have w : wipeG [g0, some (.loc 0), g2, g3, g4, g5, g6, g7, some (.tup (bs.map stD)), g9, g10, g11, g12, g13, g14, g15, g16, g17] [17] = [g0, some (.loc 0), g2, g3, g4, g5, g6, g7, some (.tup (bs.map stD)), g9, g10, g11, g12, g13, g14, g15, g16, none] := rfl
  have l8 : fLen [.tup (bs.map stD)] (P :: tl) = .ok (.int (bs.length : Int)) (P :: tl) := by simp
  have ei : (iRange1 (aCons (mOp2 fAdd (mN fLen (aCons (mV 8) aNil)) (mC (.int 1))) aNil)) [g0, some (.loc 0), g2, g3, g4, g5, g6, g7, some (.tup (bs.map stD)), g9, g10, g11, g12, g13, g14, g15, g16, g17] (P :: tl) = .ok ((List.range (bs.length + 1)).map fun i : Nat => D.int (i : Int), none) (P :: tl) := by
    rw [v_range1]
    simp only [v_aCons, v_aNil, v_mOp2, v_mN, v_mV, v_mC, List.getElem?_cons_succ, List.getElem?_cons_zero, Res.bind_ok, l8, v_add, c1, if_true]
    have : ((bs.length : Int) + 1).toNat = bs.length + 1 := by omega
    rw [this, er]
  unfold t14
  simp only [v_sSet, v_mN, v_aCons, v_aNil, v_mL, v_lComp, ei, Res.bind_ok, ln, if_true, w, e2, v_tuple, v_vSl, Res.toS_ok, List.set_cons_succ, List.set_cons_zero]
theorem f12_ok {n : Nat} {V : List Val} {K : List (Option Val)} {xs : List Stp} {P5 : AO} {h9 : AH} (hl : xs.length ≤ 200) :
    ∃ u11, f12 [g0, some (.loc 0), g2, some (.int (n : Int)), some (.lst (V.map vD)), some (.tup (K.map hvD)), some (.tup (xs.map stD)), some (.loc (P5 :: tl).length), some (.tup ((bareL xs).map stD)), some (.loc h9.length), some (.int 0), g11, g12, g13, g14, g15, g16, g17] (h9 ++ AO.lst [] :: []) = .next [g0, some (.loc 0), g2, some (.int (n : Int)), some (.lst (V.map vD)), some (.tup (K.map hvD)), some (.tup (xs.map stD)), some (.loc (P5 :: tl).length), some (.tup ((bareL xs).map stD)), some (.loc h9.length), some (.int ((plF xs).2 : Int)), u11, g12, g13, g14, g15, g16, g17] (h9 ++ AO.lst ((plF xs).1.map nD) :: []) := by
  obtain ⟨G', h', c, u11, rfl, rfl⟩ := for_pre (p := .nm 11) (body := dB) (all0 := xs.map stD)
    (fun done G hh => ∃ u, G = [g0, some (.loc 0), g2, some (.int (n : Int)), some (.lst (V.map vD)), some (.tup (K.map hvD)), some (.tup (xs.map stD)), some (.loc (P5 :: tl).length), some (.tup ((bareL xs).map stD)), some (.loc h9.length), some (.int ((plF done).2 : Int)), u, g12, g13, g14, g15, g16, g17] ∧ hh = h9 ++ AO.lst ((plF done).1.map nD) :: [])
    stD xs xs [] rfl
    (by
      rintro done x rest ed G hh ⟨u, rfl, rfl⟩
      have dl : done.length ≤ 200 := by
        have := congrArg List.length ed
        rw [List.length_append, List.length_cons] at this
        omega
      have kl := plF_len done
      have e := dB_ok (hh := h9) (G := [g0, some (.loc 0), g2, some (.int (n : Int)), some (.lst (V.map vD)), some (.tup (K.map hvD)), some (.tup (xs.map stD)), some (.loc (P5 :: tl).length), some (.tup ((bareL xs).map stD)), some (.loc h9.length), some (.int ((plF done).2 : Int)), some (stD x), g12, g13, g14, g15, g16, g17]) (S := plF done) (x := x) (by omega) rfl rfl rfl
      rw [← plF_snoc] at e
      exact ⟨_, _, _, rfl, e, some (stD x), rfl, rfl⟩)
    [g0, some (.loc 0), g2, some (.int (n : Int)), some (.lst (V.map vD)), some (.tup (K.map hvD)), some (.tup (xs.map stD)), some (.loc (P5 :: tl).length), some (.tup ((bareL xs).map stD)), some (.loc h9.length), some (.int 0), g11, g12, g13, g14, g15, g16, g17] (h9 ++ AO.lst [] :: []) ⟨g11, rfl, rfl⟩
  refine ⟨u11, ?_⟩
  have ei : (iSeq (mV 6)) [g0, some (.loc 0), g2, some (.int (n : Int)), some (.lst (V.map vD)), some (.tup (K.map hvD)), some (.tup (xs.map stD)), some (.loc (P5 :: tl).length), some (.tup ((bareL xs).map stD)), some (.loc h9.length), some (.int 0), g11, g12, g13, g14, g15, g16, g17] (h9 ++ AO.lst [] :: []) = .ok (xs.map stD, none) (h9 ++ AO.lst [] :: []) := rfl
  unfold f12
  simp only [v_sFor, ei, Res.toS_ok, c]
theorem hd_get {a b : AO} {r : AH} {i : Nat} {x : AO} (h0 : i ≠ 0) (e : (a :: r)[i]? = some x) : (b :: r)[i]? = some x := by
  cases i with
  | zero => exact absurd rfl h0
  | succ i => exact e
theorem ix_lst {ds : List D} {i : Nat} {d : D} (e : ds[i]? = some d) {h : AH} : fIx (.lst ds) (.int (i : Int)) h = .ok d h := by
  have : atI ds (i : Int) = some d := atI_nat (by omega) (by simpa using e)
  rw [v_ix]
  simp only [v_vSl, this]
theorem ne_none {h : AH} : fNe (.str "none") (.str "none") h = .ok (.bl false) h := by
  have e : okP h (.str "none") = _ := okP_str (h := h) (by decide +kernel)
  unfold fNe
  rw [e]
  have := PySem.SeqAt.eqv_refl (.str "none") (by decide +kernel)
  simp only [this, Bool.not_true]
theorem turn_ok (hc : ∀ c ∈ cs, 0 ≤ c) (hP : IsP cs P) :
    ∃ w3 w4 w5 w6 w7 w8 w9 w10 w11 w12 w13 w14 w15 P' tl', tB [g0, some (.loc 0), g2, g3, g4, g5, g6, g7, g8, g9, g10, g11, g12, g13, g14, g15, g16, g17] (P :: tl) = .next [g0, some (.loc 0), g2, w3, w4, w5, w6, w7, w8, w9, w10, w11, w12, w13, w14, w15, g16, g17] (P' :: tl') ∧ IsP cs P' := by
  obtain ⟨a, P1, e1, hP1, a0, a1⟩ := draw_ok hc hP (many := 3) (by omega) (by omega) tl
  obtain ⟨k, rfl⟩ : ∃ k : Nat, a = (k : Int) := ⟨a.toNat, by omega⟩
  obtain ⟨n, en⟩ : ∃ n, n = 1 + k := ⟨_, rfl⟩
  have n1 : 1 ≤ n := by omega
  have n2 : n ≤ 3 := by omega
  have c3 : t3 [g0, some (.loc 0), g2, g3, g4, g5, g6, g7, g8, g9, g10, g11, g12, g13, g14, g15, g16, g17] (P :: tl) = .next [g0, some (.loc 0), g2, some (.int (n : Int)), g4, g5, g6, g7, g8, g9, g10, g11, g12, g13, g14, g15, g16, g17] (P1 :: tl) := by
    have : (1 : Int) + (k : Int) = (n : Int) := by omega
    unfold t3
    simp only [v_sSet, v_mOp2, v_mN, v_aCons, v_aNil, v_mV, v_mC, List.getElem?_cons_succ, List.getElem?_cons_zero, Res.bind_ok, e1, v_add, this, Res.toS_ok, List.set_cons_succ, List.set_cons_zero]
  obtain ⟨V, P2, e2, hP2, hV, _, l1, l2⟩ := pool_ok hc hP1 tl
  have c4 : t4 [g0, some (.loc 0), g2, some (.int (n : Int)), g4, g5, g6, g7, g8, g9, g10, g11, g12, g13, g14, g15, g16, g17] (P1 :: tl) = .next [g0, some (.loc 0), g2, some (.int (n : Int)), some (.lst (V.map vD)), g5, g6, g7, g8, g9, g10, g11, g12, g13, g14, g15, g16, g17] (P2 :: tl) := by
    unfold t4
    simp only [v_sSet, v_mL, v_lN, v_aCons, v_aNil, v_mV, List.getElem?_cons_succ, List.getElem?_cons_zero, Res.bind_ok, e2, Res.toS_ok, List.set_cons_succ, List.set_cons_zero]
  obtain ⟨K, P3, c5, hP3, lK, hK, nK⟩ := t5_ok (g0 := g0) (g2 := g2) (g5 := g5) (g6 := g6) (g7 := g7) (g8 := g8) (g9 := g9) (g10 := g10) (g11 := g11) (g12 := g12) (g13 := g13) (g14 := g14) (g15 := g15) (g16 := g16) (g17 := g17) hc hP2 tl hV l1 l2 (by omega : n ≤ 64)
  obtain ⟨b, P4, e4, hP4, b0, b1⟩ := draw_ok hc hP3 (many := 15) (by omega) (by omega) tl
  obtain ⟨many, rfl⟩ : ∃ k : Nat, b = (k : Int) := ⟨b.toNat, by omega⟩
  obtain ⟨xs, P5, e5, hP5, lx, hx, pre⟩ := steps_ok (n := n) (many := many) hc hP4 tl n1 (by omega) hV l1 l2 (by omega)
  have c6 : t6 [g0, some (.loc 0), g2, some (.int (n : Int)), some (.lst (V.map vD)), some (.tup (K.map hvD)), g6, g7, g8, g9, g10, g11, g12, g13, g14, g15, g16, g17] (P3 :: tl) = .next [g0, some (.loc 0), g2, some (.int (n : Int)), some (.lst (V.map vD)), some (.tup (K.map hvD)), some (.tup (xs.map stD)), g7, g8, g9, g10, g11, g12, g13, g14, g15, g16, g17] (P5 :: tl) := by
    unfold t6
    simp only [v_sSet, v_mN, v_aCons, v_aNil, v_mV, v_mC, List.getElem?_cons_succ, List.getElem?_cons_zero, Res.bind_ok, e4, e5, Res.toS_ok, List.set_cons_succ, List.set_cons_zero]
  have p : PlanOk n K xs := ⟨n1, by omega, lK, hK, nK, by omega, hx, pre⟩
  have xl : xs.length ≤ 200 := p.few
  have lb : (bareL xs).length ≤ xs.length := List.length_filter_le _ _
  obtain ⟨h7, eh7⟩ : ∃ h7, h7 = (P5 :: tl) ++ [AO.ins "Plan" (planF K xs)] := ⟨_, rfl⟩
  have gP7 : h7[(P5 :: tl).length]? = some (.ins "Plan" (planF K xs)) := by rw [eh7]; exact get_new
  have c7 : t7 [g0, some (.loc 0), g2, some (.int (n : Int)), some (.lst (V.map vD)), some (.tup (K.map hvD)), some (.tup (xs.map stD)), g7, g8, g9, g10, g11, g12, g13, g14, g15, g16, g17] (P5 :: tl) = .next [g0, some (.loc 0), g2, some (.int (n : Int)), some (.lst (V.map vD)), some (.tup (K.map hvD)), some (.tup (xs.map stD)), some (.loc (P5 :: tl).length), g8, g9, g10, g11, g12, g13, g14, g15, g16, g17] h7 := by
    have := plan_ok p (G := [g0, some (.loc 0), g2, some (.int (n : Int)), some (.lst (V.map vD)), some (.tup (K.map hvD)), some (.tup (xs.map stD)), g7, g8, g9, g10, g11, g12, g13, g14, g15, g16, g17]) (i := 5) (j := 6) rfl rfl (P5 :: tl)
    rw [← eh7] at this
    unfold t7
    simp only [v_sSet, this, Res.toS_ok, List.set_cons_succ, List.set_cons_zero]
  have c8 : t8 [g0, some (.loc 0), g2, some (.int (n : Int)), some (.lst (V.map vD)), some (.tup (K.map hvD)), some (.tup (xs.map stD)), some (.loc (P5 :: tl).length), g8, g9, g10, g11, g12, g13, g14, g15, g16, g17] h7 = .next [g0, some (.loc 0), g2, some (.int (n : Int)), some (.lst (V.map vD)), some (.tup (K.map hvD)), some (.tup (xs.map stD)), some (.loc (P5 :: tl).length), some (.tup ((bareL xs).map stD)), g9, g10, g11, g12, g13, g14, g15, g16, g17] h7 := by
    have e := law_bare_ok (h := h7) (xs := xs) (by omega)
    unfold t8
    simp only [v_sSet, v_mN, v_aCons, v_aNil, v_mV, List.getElem?_cons_succ, List.getElem?_cons_zero, Res.bind_ok, e, Res.toS_ok, List.set_cons_succ, List.set_cons_zero]
  obtain ⟨t9, c9⟩ := i9_ok (G := [g0, some (.loc 0), g2, some (.int (n : Int)), some (.lst (V.map vD)), some (.tup (K.map hvD)), some (.tup (xs.map stD)), some (.loc (P5 :: tl).length), some (.tup ((bareL xs).map stD)), g9, g10, g11, g12, g13, g14, g15, g16, g17]) p gP7 rfl rfl rfl
  obtain ⟨h9, eh9⟩ : ∃ h9, h9 = h7 ++ t9 := ⟨_, rfl⟩
  rw [← eh9] at c9
  have gP9 : h9[(P5 :: tl).length]? = some (.ins "Plan" (planF K xs)) := by rw [eh9]; exact get_app gP7
  have c10 : t10 [g0, some (.loc 0), g2, some (.int (n : Int)), some (.lst (V.map vD)), some (.tup (K.map hvD)), some (.tup (xs.map stD)), some (.loc (P5 :: tl).length), some (.tup ((bareL xs).map stD)), g9, g10, g11, g12, g13, g14, g15, g16, g17] h9 = .next [g0, some (.loc 0), g2, some (.int (n : Int)), some (.lst (V.map vD)), some (.tup (K.map hvD)), some (.tup (xs.map stD)), some (.loc (P5 :: tl).length), some (.tup ((bareL xs).map stD)), some (.loc h9.length), g10, g11, g12, g13, g14, g15, g16, g17] (h9 ++ AO.lst [] :: []) := by
    have b0 : (0 : Nat) ≤ big := by decide
    unfold t10
    simp only [v_sSet, v_mNew, v_lLst, v_aNil, Res.bind_ok, List.length_nil, b0, if_true, Res.toS_ok, List.set_cons_succ, List.set_cons_zero]
  have c11 : t11 [g0, some (.loc 0), g2, some (.int (n : Int)), some (.lst (V.map vD)), some (.tup (K.map hvD)), some (.tup (xs.map stD)), some (.loc (P5 :: tl).length), some (.tup ((bareL xs).map stD)), some (.loc h9.length), g10, g11, g12, g13, g14, g15, g16, g17] (h9 ++ AO.lst [] :: []) = .next [g0, some (.loc 0), g2, some (.int (n : Int)), some (.lst (V.map vD)), some (.tup (K.map hvD)), some (.tup (xs.map stD)), some (.loc (P5 :: tl).length), some (.tup ((bareL xs).map stD)), some (.loc h9.length), some (.int 0), g11, g12, g13, g14, g15, g16, g17] (h9 ++ AO.lst [] :: []) := by
    unfold t11
    simp only [v_sSet, v_mC, Res.toS_ok, List.set_cons_succ, List.set_cons_zero]
  obtain ⟨u11, c12⟩ := f12_ok (n := n) (V := V) (K := K) (P5 := P5) (tl := tl) (h9 := h9) (g0 := g0) (g2 := g2) (g11 := g11) (g12 := g12) (g13 := g13) (g14 := g14) (g15 := g15) (g16 := g16) (g17 := g17) xl
  obtain ⟨h12, eh12⟩ : ∃ h12, h12 = h9 ++ AO.lst ((plF xs).1.map nD) :: [] := ⟨_, rfl⟩
  rw [← eh12] at c12
  have gP12 : h12[(P5 :: tl).length]? = some (.ins "Plan" (planF K xs)) := by rw [eh12]; exact get_app gP9
  have gD12 : h12[h9.length]? = some (.lst ((plF xs).1.map nD)) := by rw [eh12]; exact get_new
  have c13 := i13_ok (G := [g0, some (.loc 0), g2, some (.int (n : Int)), some (.lst (V.map vD)), some (.tup (K.map hvD)), some (.tup (xs.map stD)), some (.loc (P5 :: tl).length), some (.tup ((bareL xs).map stD)), some (.loc h9.length), some (.int ((plF xs).2 : Int)), u11, g12, g13, g14, g15, g16, g17]) xl gP12 gD12 rfl rfl
  obtain ⟨r12, er12⟩ : ∃ r12, r12 = tl ++ [AO.ins "Plan" (planF K xs)] ++ t9 ++ AO.lst ((plF xs).1.map nD) :: [] := ⟨_, rfl⟩
  have ec12 : h12 = P5 :: r12 := by rw [eh12, eh9, eh7, er12]; simp
  obtain ⟨L, P6, c14, hP6, sl⟩ := t14_ok (g0 := g0) (g2 := g2) (g3 := some (.int (n : Int))) (g4 := some (.lst (V.map vD))) (g5 := some (.tup (K.map hvD))) (g6 := some (.tup (xs.map stD))) (g7 := some (.loc (P5 :: tl).length)) (g9 := some (.loc h9.length)) (g10 := some (.int ((plF xs).2 : Int))) (g11 := u11) (g12 := g12) (g13 := g13) (g14 := g14) (g15 := g15) (g16 := g16) (g17 := g17) hc hP5 r12 (bs := bareL xs) (by omega)
  rw [← ec12] at c14
  obtain ⟨hA, hL', hLl⟩ := sub_asc sl
  have hL : ∀ q ∈ L, q ≤ (bareL xs).length := fun q hq => by have := hL' q hq; omega
  have np : (P5 :: tl).length ≠ 0 := by simp
  have nd : h9.length ≠ 0 := by
    have := lt_of_get gP9
    omega
  rw [ec12] at gP12 gD12
  have gP14 : (P6 :: r12)[(P5 :: tl).length]? = some (.ins "Plan" (planF K xs)) := hd_get np gP12
  have gD14 : (P6 :: r12)[h9.length]? = some (.lst ((plF xs).1.map nD)) := hd_get nd gD12
  obtain ⟨F, T, e15, gF⟩ := with_barriers_ok (n := n) gP14 (by omega) (by omega) hA hL (by omega)
  have c15 : t15 [g0, some (.loc 0), g2, some (.int (n : Int)), some (.lst (V.map vD)), some (.tup (K.map hvD)), some (.tup (xs.map stD)), some (.loc (P5 :: tl).length), some (.tup ((bareL xs).map stD)), some (.loc h9.length), some (.int ((plF xs).2 : Int)), u11, some (.tup (L.map nD)), g13, g14, g15, g16, g17] (P6 :: r12) = .next [g0, some (.loc 0), g2, some (.int (n : Int)), some (.lst (V.map vD)), some (.tup (K.map hvD)), some (.tup (xs.map stD)), some (.loc (P5 :: tl).length), some (.tup ((bareL xs).map stD)), some (.loc h9.length), some (.int ((plF xs).2 : Int)), u11, some (.tup (L.map nD)), some (.loc F), g14, g15, g16, g17] (P6 :: r12 ++ T) := by
    unfold t15
    simp only [v_sSet, v_mN, v_aCons, v_aNil, v_mV, List.getElem?_cons_succ, List.getElem?_cons_zero, Res.bind_ok, e15, Res.toS_ok, List.set_cons_succ, List.set_cons_zero]
  have c16 := i16_ok (G := [g0, some (.loc 0), g2, some (.int (n : Int)), some (.lst (V.map vD)), some (.tup (K.map hvD)), some (.tup (xs.map stD)), some (.loc (P5 :: tl).length), some (.tup ((bareL xs).map stD)), some (.loc h9.length), some (.int ((plF xs).2 : Int)), u11, some (.tup (L.map nD)), some (.loc F), g14, g15, g16, g17]) xl hA hL (by omega) gF rfl rfl rfl rfl
  obtain ⟨t17, c17⟩ := i17_ok (G := [g0, some (.loc 0), g2, some (.int (n : Int)), some (.lst (V.map vD)), some (.tup (K.map hvD)), some (.tup (xs.map stD)), some (.loc (P5 :: tl).length), some (.tup ((bareL xs).map stD)), some (.loc h9.length), some (.int ((plF xs).2 : Int)), u11, some (.tup (L.map nD)), some (.loc F), g14, g15, g16, g17]) xl (by omega : L.length ≤ 300) (get_app gP14) gF (get_app gD14) rfl rfl rfl rfl
  obtain ⟨h17, eh17⟩ : ∃ h17, h17 = P6 :: r12 ++ T ++ t17 := ⟨_, rfl⟩
  rw [← eh17] at c17
  have gP17 : h17[(P5 :: tl).length]? = some (.ins "Plan" (planF K xs)) := by rw [eh17]; exact get_app (get_app gP14)
  have c18 := t18_ok (hh := h17) (G := [g0, some (.loc 0), g2, some (.int (n : Int)), some (.lst (V.map vD)), some (.tup (K.map hvD)), some (.tup (xs.map stD)), some (.loc (P5 :: tl).length), some (.tup ((bareL xs).map stD)), some (.loc h9.length), some (.int ((plF xs).2 : Int)), u11, some (.tup (L.map nD)), some (.loc F), g14, g15, g16, g17]) (L := L) (bs := bareL xs) (by omega) rfl rfl
  obtain ⟨r18, er18⟩ : ∃ r18, r18 = r12 ++ T ++ t17 ++ [AO.dct []] := ⟨_, rfl⟩
  have ec18 : h17 ++ [AO.dct []] = P6 :: r18 := by rw [eh17, er18]; simp
  have gP18 : (P6 :: r18)[(P5 :: tl).length]? = some (.ins "Plan" (planF K xs)) := by rw [← ec18]; exact get_app gP17
  have gd18 : (P6 :: r18)[h17.length]? = some (.dct []) := by rw [← ec18]; exact get_new
  rw [ec18] at c18
  obtain ⟨r, P7, e19, hP7, q0, q1⟩ := draw_ok hc hP6 (many := 10) (by omega) (by omega) r18
  obtain ⟨j, rfl⟩ : ∃ j : Nat, r = (j : Int) := ⟨r.toNat, by omega⟩
  have jl : j < (oddL L (bareL xs).length h17.length).length := by
    show j < 10
    omega
  obtain ⟨d, hd⟩ : ∃ d, (oddL L (bareL xs).length h17.length)[j]? = some d := ⟨_, List.getElem?_eq_getElem jl⟩
  have c19 : t19 [g0, some (.loc 0), g2, some (.int (n : Int)), some (.lst (V.map vD)), some (.tup (K.map hvD)), some (.tup (xs.map stD)), some (.loc (P5 :: tl).length), some (.tup ((bareL xs).map stD)), some (.loc h9.length), some (.int ((plF xs).2 : Int)), u11, some (.tup (L.map nD)), some (.loc F), some (.lst (oddL L (bareL xs).length h17.length)), g15, g16, g17] (P6 :: r18) = .next [g0, some (.loc 0), g2, some (.int (n : Int)), some (.lst (V.map vD)), some (.tup (K.map hvD)), some (.tup (xs.map stD)), some (.loc (P5 :: tl).length), some (.tup ((bareL xs).map stD)), some (.loc h9.length), some (.int ((plF xs).2 : Int)), u11, some (.tup (L.map nD)), some (.loc F), some (.lst (oddL L (bareL xs).length h17.length)), some d, g16, g17] (P7 :: r18) := by
    unfold t19
    simp only [v_sSet, v_mOp2, v_mN, v_aCons, v_aNil, v_mV, v_mC, List.getElem?_cons_succ, List.getElem?_cons_zero, Res.bind_ok, e19, ix_lst hd, Res.toS_ok, List.set_cons_succ, List.set_cons_zero]
  have gP19 : (P7 :: r18)[(P5 :: tl).length]? = some (.ins "Plan" (planF K xs)) := hd_get np gP18
  have n17 : h17.length ≠ 0 := by
    have := lt_of_get gP17
    omega
  have gd19 : (P7 :: r18)[h17.length]? = some (.dct []) := hd_get n17 gd18
  obtain ⟨d', c20, ex⟩ := odd_ok (G := [g0, some (.loc 0), g2, some (.int (n : Int)), some (.lst (V.map vD)), some (.tup (K.map hvD)), some (.tup (xs.map stD)), some (.loc (P5 :: tl).length), some (.tup ((bareL xs).map stD)), some (.loc h9.length), some (.int ((plF xs).2 : Int)), u11, some (.tup (L.map nD)), some (.loc F), some (.lst (oddL L (bareL xs).length h17.length)), some d, g16, g17]) xl gP19 hL (by omega) gd19 (List.mem_of_getElem? hd) rfl
  have et := told_none gP19 ex
  have c21 : i21 [g0, some (.loc 0), g2, some (.int (n : Int)), some (.lst (V.map vD)), some (.tup (K.map hvD)), some (.tup (xs.map stD)), some (.loc (P5 :: tl).length), some (.tup ((bareL xs).map stD)), some (.loc h9.length), some (.int ((plF xs).2 : Int)), u11, some (.tup (L.map nD)), some (.loc F), some (.lst (oddL L (bareL xs).length h17.length)), some d', g16, g17] (P7 :: r18) = .next [g0, some (.loc 0), g2, some (.int (n : Int)), some (.lst (V.map vD)), some (.tup (K.map hvD)), some (.tup (xs.map stD)), some (.loc (P5 :: tl).length), some (.tup ((bareL xs).map stD)), some (.loc h9.length), some (.int ((plF xs).2 : Int)), u11, some (.tup (L.map nD)), some (.loc F), some (.lst (oddL L (bareL xs).length h17.length)), some d', g16, g17] (P7 :: r18) := by
    unfold i21 fls
    simp only [v_sIf, v_tBl, v_mOp2, v_mN, v_aCons, v_aNil, v_mV, v_mC, List.getElem?_cons_succ, List.getElem?_cons_zero, Res.bind_ok, et, ne_none, Bool.false_eq_true, if_false, Res.toS_ok, v_sNil]
  refine ⟨some (.int (n : Int)), some (.lst (V.map vD)), some (.tup (K.map hvD)), some (.tup (xs.map stD)), some (.loc (P5 :: tl).length), some (.tup ((bareL xs).map stD)), some (.loc h9.length), some (.int ((plF xs).2 : Int)), u11, some (.tup (L.map nD)), some (.loc F), some (.lst (oddL L (bareL xs).length h17.length)), some d', P7, r18, ?_, hP7⟩
  unfold tB
  simp only [List.set_cons_succ, List.set_cons_zero] at c18 c20
  rw [v_sSeq, c3, SR.andThen_next, v_sSeq, c4, SR.andThen_next, v_sSeq, c5, SR.andThen_next, v_sSeq, c6, SR.andThen_next, v_sSeq, c7, SR.andThen_next, v_sSeq, c8, SR.andThen_next, v_sSeq, c9, SR.andThen_next, v_sSeq, c10, SR.andThen_next, v_sSeq, c11, SR.andThen_next, v_sSeq, c12, SR.andThen_next, v_sSeq, c13, SR.andThen_next, v_sSeq, c14, SR.andThen_next, v_sSeq, c15, SR.andThen_next, v_sSeq, c16, SR.andThen_next, v_sSeq, c17, SR.andThen_next, v_sSeq, c18, SR.andThen_next, v_sSeq, c19, SR.andThen_next, v_sSeq, c20, SR.andThen_next, v_sSeq, c21, SR.andThen_next, v_sNil]
end
theorem law_true : ∀ ns : List Int, ns.length ≤ 63 → ∃ h, m_law [.rol (ns.map D.int)] [] = .ok (.bl true) h := by
  intro ns hns
  obtain ⟨cs, hc, s, ep⟩ := hand_ok ns hns
  have hP : IsP cs (.lst [.lst (cs.map .int), .int 0, .int 0, .int s, .int 0]) := ⟨0, 0, s, 0, rfl, by omega, by omega, by omega⟩
  obtain ⟨P0, eP0⟩ : ∃ P0, P0 = AO.lst [.lst (cs.map .int), .int 0, .int 0, .int s, .int 0] := ⟨_, rfl⟩
  rw [← eP0] at hP
  obtain ⟨r, P1, e1, hP1, r0, r1⟩ := draw_ok hc hP (many := 12) (by omega) (by omega) []
  have cl : ∃ P2, lng [some (.rol (ns.map .int)), some (.loc 0), none, none, none, none, none, none, none, none, none, none, none, none, none, none, none, none] [P0] = .next [some (.rol (ns.map .int)), some (.loc 0), none, none, none, none, none, none, none, none, none, none, none, none, none, none, none, none] [P2] ∧ IsP cs P2 := by
    by_cases c : r = 0
    · obtain ⟨P2, e2, hP2⟩ := long_ok (tl := []) hc hP1
      refine ⟨P2, ?_, hP2⟩
      unfold lng
      simp only [v_sIf, v_tAnd, v_tBl, v_mOp2, v_mN, v_aCons, v_aNil, v_mV, v_mC, List.getElem?_cons_succ, List.getElem?_cons_zero, Res.bind_ok, e1, v_eq, decide_eq_true c, if_true, v_tNot, v_tOf, e2, v_truB, Bool.not_true, Bool.false_eq_true, if_false, Res.toS_ok, v_sNil]
    · refine ⟨P1, ?_, hP1⟩
      unfold lng
      simp only [v_sIf, v_tAnd, v_tBl, v_mOp2, v_mN, v_aCons, v_aNil, v_mV, v_mC, List.getElem?_cons_succ, List.getElem?_cons_zero, Res.bind_ok, e1, v_eq, decide_eq_false c, Bool.false_eq_true, if_false, Res.toS_ok, v_sNil]
  obtain ⟨P2, cl, hP2⟩ := cl
  have er : rangeD 0 4 = (List.range 4).map fun i : Nat => D.int (i : Int) := rangeD_eq 4
  have c1 : okR (4 : Int) := ⟨by decide, by decide⟩
  obtain ⟨G', h', e5, P', tl, ⟨x2, x3, x4, x5, x6, x7, x8, x9, x10, x11, x12, x13, x14, x15, x16, x17, rfl⟩, rfl, hP'⟩ := for_inv (p := .nm 2) (body := tB) (all0 := (List.range 4).map fun i : Nat => D.int (i : Int))
    (fun G h => ∃ P tl, (∃ x2 x3 x4 x5 x6 x7 x8 x9 x10 x11 x12 x13 x14 x15 x16 x17, G = [some (.rol (ns.map .int)), some (.loc 0), x2, x3, x4, x5, x6, x7, x8, x9, x10, x11, x12, x13, x14, x15, x16, x17]) ∧ h = P :: tl ∧ IsP cs P)
    (fun i : Nat => D.int (i : Int)) (List.range 4)
    (by
      rintro i hi G h ⟨P, tl, ⟨x2, x3, x4, x5, x6, x7, x8, x9, x10, x11, x12, x13, x14, x15, x16, x17, rfl⟩, rfl, hP⟩
      obtain ⟨y3, y4, y5, y6, y7, y8, y9, y10, y11, y12, y13, y14, y15, P', tl', e, hP'⟩ := turn_ok (tl := tl) (g0 := some (.rol (ns.map .int))) (g2 := some (.int i)) (g3 := x3) (g4 := x4) (g5 := x5) (g6 := x6) (g7 := x7) (g8 := x8) (g9 := x9) (g10 := x10) (g11 := x11) (g12 := x12) (g13 := x13) (g14 := x14) (g15 := x15) (g16 := x16) (g17 := x17) hc hP
      exact ⟨_, _, _, rfl, e, P', tl', ⟨some (.int i), y3, y4, y5, y6, y7, y8, y9, y10, y11, y12, y13, y14, y15, x16, x17, rfl⟩, rfl, hP'⟩)
    [some (.rol (ns.map .int)), some (.loc 0), none, none, none, none, none, none, none, none, none, none, none, none, none, none, none, none] [P2] ⟨P2, [], ⟨none, none, none, none, none, none, none, none, none, none, none, none, none, none, none, none, rfl⟩, rfl, hP2⟩
  have ei : iRange1 (aCons (mC (.int 4)) aNil) [some (.rol (ns.map .int)), some (.loc 0), none, none, none, none, none, none, none, none, none, none, none, none, none, none, none, none] [P2] = .ok ((List.range 4).map fun i : Nat => D.int (i : Int), none) [P2] := by
    rw [v_range1]
    simp only [v_aCons, v_aNil, v_mC, Res.bind_ok, c1, if_true]
    show Res.ok (rangeD 0 4, none) _ = _
    rw [er]
  have e0 : (mNew (lN m__law_hand (aCons (mV 0) aNil))) [some (.rol (ns.map .int)), none, none, none, none, none, none, none, none, none, none, none, none, none, none, none, none, none] [] = .ok (.loc 0) [P0] := by
    rw [eP0]
    simp only [v_mNew, v_lN, v_aCons, v_aNil, v_mV, List.getElem?_cons_zero, Res.bind_ok, ep]
    rfl
  have ebody : b_law [some (.rol (ns.map .int)), none, none, none, none, none, none, none, none, none, none, none, none, none, none, none, none, none] [] = .ret (.bl true) (P' :: tl) := by
    rw [law_eq]
    simp only [v_sSeq, v_sSet, e0, Res.toS_ok, SR.andThen_next, List.set_cons_succ, List.set_cons_zero, cl, v_sFor, ei, e5, v_sRet, v_mC, SR.andThen_ret]
  have fin : finD 0 [] (D.bl true) (P' :: tl) = .ok (.bl true) [] := finD_app [] (P' :: tl) _ rfl
  refine ⟨[], ?_⟩
  have em : m_law [.rol (ns.map D.int)] [] = (match b_law [some (.rol (ns.map .int)), none, none, none, none, none, none, none, none, none, none, none, none, none, none, none, none, none] [] with
    | .next _ h1 => finD 0 [] .non h1
    | .ret d h1 => finD 0 [] d h1
    | .exc c fs _ h1 => finX 0 [] c fs h1
    | _ => .stuck) := by
    unfold m_law mDef
    rw [if_pos (show [D.rol (List.map D.int ns)].length = 1 from rfl)]
    rfl
  rw [em, ebody]
  exact fin
end My
namespace My
open PySem PySem.Spec PyProof.Rows L2 AB
structure Txt (K : PySem.W.Frag) (mg : Str → Option Value) : Prop where
  b_abs : mg "abs" = none
  b_all : mg "all" = none
  b_any : mg "any" = none
  b_bool : mg "bool" = none
  b_enumerate : mg "enumerate" = none
  b_int : mg "int" = none
  b_isinstance : mg "isinstance" = none
  b_len : mg "len" = none
  b_list : mg "list" = none
  b_range : mg "range" = none
  b_sorted : mg "sorted" = none
  b_str : mg "str" = none
  b_tuple : mg "tuple" = none
  b_zip : mg "zip" = none
  g_MOST_ITEM : ∃ t : Tok, mg "MOST_ITEM" = some (.int 1000000000000 t)
  g_MOST_ITEMS : ∃ t : Tok, mg "MOST_ITEMS" = some (.int 32 t)
  g_MOST_SECTORS : ∃ t : Tok, mg "MOST_SECTORS" = some (.int 64 t)
  g_MOST_STEPS : ∃ t : Tok, mg "MOST_STEPS" = some (.int 200 t)
  x_NoPlaces : ExcK K mg "NoPlaces"
  n_NoPlaces : ∃ cl, mg "NoPlaces" = some cl
  k_NoPlaces_NoPlaces : CatK K mg "NoPlaces" "NoPlaces" true
  ne_RawPlan_Plan : NeOk K "RawPlan" "Plan"
  ne_RawPlan_RawPlan : NeOk K "RawPlan" "RawPlan"
  ki_Plan_Plan : KitOk K mg "Plan" "Plan" true
  ki_RawPlan_Plan : KitOk K mg "RawPlan" "Plan" true
  o_Plan : ∃ D0, mg "Plan" = some (.ref D0)
  f_Plan_kept_state : FldOk K "Plan" "kept_state"
  f_Plan_kept_steps : FldOk K "Plan" "kept_steps"
  f_RawPlan_kept_state : FldOk K "RawPlan" "kept_state"
  f_RawPlan_kept_steps : FldOk K "RawPlan" "kept_steps"
section
variable {P : Program} {w : World} {K : PySem.W.Frag} {mg : Str → Option Value} {base : Heap}
theorem sc__law_hand : FnScope ["script", "cells", "cell"] ["script"] (defScope (topS 29)) := ⟨rfl, rfl, rfl, by decide +kernel, rfl, by decide +kernel, by decide +kernel⟩
theorem ok__law_hand {f : Addr} {fd : FuncData} (F : Fun K "_law_hand" "_law_hand" (topS 29) f fd) (T : Txt K mg)  : FnOk P w K mg base (L2.CX P w) 1 f fd ["script"] (spL K mg m__law_hand) :=
  fn_okL F sc__law_hand b__law_hand fun cdv A outer s H E hr =>
    (s_seq (s_setLc (own := [("cell", 2)]) 1 (.nm 2) (fun _ _ _ => L_read)  sc__law_hand.nd (i_seq (e_sl (e_var 0) o_none (o_some e_int))) (blkOk_by (by rfl)) (fun _ _ _ _ _ => (pg_nmP (i := 2) sc__law_hand.nd rfl)) (fun _ _ _ _ _ => p_yes) (fun _ _ _ _ _ => (e_abs T.b_abs (a_cons (e_int1 T.b_int (a_cons (e_var 2) a_nil)) a_nil))) (by decide)) (s_seq (s_ret (e_new (f_lst (a_cons (e_var 1) (a_cons e_int (a_cons e_int (a_cons (e_bin op_add3 fol_add e_int (e_len T.b_len (a_cons (e_var 1) a_nil))) (a_cons e_int a_nil)))))))) s_nil))
theorem sc__law_draw : FnScope ["hand", "many", "cell", "digit", "number"] ["hand", "many"] (defScope (topS 30)) := ⟨rfl, rfl, rfl, by decide +kernel, rfl, by decide +kernel, by decide +kernel⟩
theorem ok__law_draw {f : Addr} {fd : FuncData} (F : Fun K "_law_draw" "_law_draw" (topS 30) f fd) (T : Txt K mg)  : FnOk P w K mg base (L2.CX P w) 1 f fd ["hand", "many"] (spM K mg m__law_draw) :=
  fn_ok F sc__law_draw b__law_draw fun cdv A outer s H E hr =>
    (s_seq (s_if (w_and (t_cmp (op_eqD (hu64 hr)) fol_eq (e_ix (e_var 0) e_int) e_int) (w_one .And (t_cmp (op_cLt (hu65 hr)) fol_cLt (e_ix (e_var 0) e_int) (e_len T.b_len (a_cons (e_ix (e_var 0) e_int) a_nil))))).pt (s_seq (s_set 2 (e_ix (e_ix (e_var 0) e_int) (e_ix (e_var 0) e_int)) sc__law_draw.nd) (s_seq (s_sub (e_bin op_add3 fol_add (e_ix (e_var 0) e_int) e_int) (e_var 0) e_int) (s_seq (s_sub (e_bin op_mod fol_mod (e_int1 T.b_int (a_cons (e_bin op_add3 fol_add (e_bin op_add3 fol_add (e_bin op_mul fol_mul (e_ix (e_var 0) e_int) e_int) (e_var 2)) e_int) a_nil)) e_int) (e_var 0) e_int) (s_seq (s_if (t_cmp (op_cGe (hu65 hr)) fol_cGe (e_var 2) (e_bin op_pow fol_pow e_int e_int)) (s_seq (s_sub (e_var 2) (e_var 0) e_int) s_nil) s_nil) s_nil)))) s_nil) (s_seq (s_if (t_cmp (op_cGt (hu65 hr)) fol_cGt (e_ix (e_var 0) e_int) e_int) (s_seq (s_set 3 (e_bin op_mod fol_mod (e_int1 T.b_int (a_cons (e_ix (e_var 0) e_int) a_nil)) (e_var 1)) sc__law_draw.nd) (s_seq (s_sub (e_bin op_fdivW fol_div (e_ix (e_var 0) e_int) (e_var 1)) (e_var 0) e_int) (s_seq (s_ret (e_var 3)) s_nil))) s_nil) (s_seq (s_sub (e_bin op_add3 fol_add (e_ix (e_var 0) e_int) e_int) (e_var 0) e_int) (s_seq (s_set 4 (e_bin op_mod fol_mod (e_int1 T.b_int (a_cons (e_bin op_mul fol_mul (e_int1 T.b_int (a_cons (e_bin op_add3 fol_add (e_ix (e_var 0) e_int) (e_bin op_mul fol_mul e_int (e_ix (e_var 0) e_int))) a_nil)) e_int) a_nil)) e_int) sc__law_draw.nd) (s_seq (s_set 4 (e_bin op_mod fol_mod (e_int1 T.b_int (a_cons (e_bin op_mul fol_mul (e_var 4) (e_bin op_add3 fol_add (e_bin op_fdivW fol_div (e_var 4) e_int) e_int)) a_nil)) e_int) sc__law_draw.nd) (s_seq (s_set 4 (e_bin op_mod fol_mod (e_int1 T.b_int (a_cons (e_bin op_mul fol_mul (e_var 4) (e_bin op_add3 fol_add (e_bin op_fdivW fol_div (e_var 4) e_int) e_int)) a_nil)) e_int) sc__law_draw.nd) (s_seq (s_ret (e_bin op_mod fol_mod (e_int1 T.b_int (a_cons (e_bin op_fdivW fol_div (e_var 4) e_int) a_nil)) (e_var 1))) s_nil)))))))
theorem sc_Plan_keep : FnScope ["self", "state", "steps"] ["self", "state", "steps"] (defScope (inClass (topS 19) 1)) := ⟨rfl, rfl, rfl, by decide +kernel, rfl, by decide +kernel, by decide +kernel⟩
theorem ok_Plan_keep {f : Addr} {fd : FuncData} (F : Fun K "keep" "Plan.keep" (inClass (topS 19) 1) f fd) (T : Txt K mg)  : FnOk P w K mg base (L2.CX P w) 1 f fd ["self", "state", "steps"] (spM K mg m_Plan_keep) :=
  fn_okK F sc_Plan_keep b_Plan_keep fun cdv A outer s H E hr =>
    (s_seq (s_fld ["Plan", "RawPlan"] (e_var 0) (e_var 1) (AllC.c T.f_Plan_kept_state (AllC.c T.f_RawPlan_kept_state AllC.n))) (s_seq (s_fld ["Plan", "RawPlan"] (e_var 0) (e_var 2) (AllC.c T.f_Plan_kept_steps (AllC.c T.f_RawPlan_kept_steps AllC.n))) s_nil))
theorem sc_is_integer : FnScope ["thing"] ["thing"] (defScope (topS 8)) := ⟨rfl, rfl, rfl, by decide +kernel, rfl, by decide +kernel, by decide +kernel⟩
theorem ok_is_integer {f : Addr} {fd : FuncData} (F : Fun K "is_integer" "is_integer" (topS 8) f fd) (T : Txt K mg)  : FnOk P w K mg base (L2.CX P w) 1 f fd ["thing"] (spM K mg m_is_integer) :=
  fn_ok F sc_is_integer b_is_integer fun cdv A outer s H E hr =>
    (s_seq (s_ret (e_and (e_isi .int T.b_isinstance T.b_int (e_var 0)) (e_one (e_not (e_isi .bl T.b_isinstance T.b_bool (e_var 0)))))) s_nil)
theorem sc_is_deed_step : FnScope ["thing"] ["thing"] (defScope (topS 18)) := ⟨rfl, rfl, rfl, by decide +kernel, rfl, by decide +kernel, by decide +kernel⟩
theorem ok_is_deed_step {f : Addr} {fd : FuncData} (F : Fun K "is_deed_step" "is_deed_step" (topS 18) f fd) (T : Txt K mg)  : FnOk P w K mg base (L2.CX P w) 1 f fd ["thing"] (spM K mg m_is_deed_step) :=
  fn_ok F sc_is_deed_step b_is_deed_step fun cdv A outer s H E hr =>
    (s_seq (s_ret (e_and (e_isi .tup T.b_isinstance T.b_tuple (e_var 0)) (e_and (e_cmp (op_eqD (hu64 hr)) fol_eq (e_len T.b_len (a_cons (e_var 0) a_nil)) e_int) (e_and (e_isi .str T.b_isinstance T.b_str (e_ix (e_var 0) e_int)) (e_one (e_cmp (op_inA (hu65 hr)) fol_in (e_ix (e_var 0) e_int) (e_tup (a_cons e_str (a_cons e_str a_nil))))))))) s_nil)
theorem sc__law_bare : FnScope ["steps", "step"] ["steps"] (defScope (topS 35)) := ⟨rfl, rfl, rfl, by decide +kernel, rfl, by decide +kernel, by decide +kernel⟩
theorem ok__law_bare {f : Addr} {fd : FuncData} (F : Fun K "_law_bare" "_law_bare" (topS 35) f fd) (T : Txt K mg)  : FnOk P w K mg base (L2.CX P w) 1 f fd ["steps"] (spM K mg m__law_bare) :=
  fn_ok F sc__law_bare b__law_bare fun cdv A outer s H E hr =>
    (s_seq (s_ret (e_tuple T.b_tuple (a_cons (e_L (f_lc (own := [("step", 1)]) (.nm 1) sc__law_bare.nd (i_seq (e_var 0)) (blkOk_by (by rfl)) (fun _ _ _ _ _ => (pg_nmP (i := 1) sc__law_bare.nd rfl)) (fun _ _ _ _ _ => (pts_one (t_cmp (op_neD (hu64 hr)) fol_ne (e_ix (e_var 1) e_int) e_str))) (fun _ _ _ _ _ => (e_var 1)) (by decide))) a_nil))) s_nil)
theorem sc_bare_steps : FnScope ["plan", "step"] ["plan"] (defScope (topS 22)) := ⟨rfl, rfl, rfl, by decide +kernel, rfl, by decide +kernel, by decide +kernel⟩
theorem ok_bare_steps {f : Addr} {fd : FuncData} (F : Fun K "bare_steps" "bare_steps" (topS 22) f fd) (T : Txt K mg)  : FnOk P w K mg base (L2.CX P w) 1 f fd ["plan"] (spM K mg m_bare_steps) :=
  fn_ok F sc_bare_steps b_bare_steps fun cdv A outer s H E hr =>
    (s_seq (s_ret (e_tuple T.b_tuple (a_cons (e_L (f_lc (own := [("step", 1)]) (.nm 1) sc_bare_steps.nd (i_seq (e_fld ["Plan", "RawPlan"] (e_var 0) (AllC.c T.f_Plan_kept_steps (AllC.c T.f_RawPlan_kept_steps AllC.n)))) (blkOk_by (by rfl)) (fun _ _ _ _ _ => (pg_nmP (i := 1) sc_bare_steps.nd rfl)) (fun _ _ _ _ _ => (pts_one (t_cmp (op_neD (hu64 hr)) fol_ne (e_ix (e_var 1) e_int) e_str))) (fun _ _ _ _ _ => (e_var 1)) (by decide))) a_nil))) s_nil)
theorem sc_Plan_parts : FnScope ["self"] ["self"] (defScope (inClass (topS 19) 4)) := ⟨rfl, rfl, rfl, by decide +kernel, rfl, by decide +kernel, by decide +kernel⟩
theorem ok_Plan_parts {f : Addr} {fd : FuncData} (F : Fun K "parts" "Plan.parts" (inClass (topS 19) 4) f fd) (T : Txt K mg)  : FnOk P w K mg base (L2.CX P w) 1 f fd ["self"] (spM K mg m_Plan_parts) :=
  fn_okK F sc_Plan_parts b_Plan_parts fun cdv A outer s H E hr =>
    (s_seq (s_ret (e_tup (a_cons (e_fld ["Plan", "RawPlan"] (e_var 0) (AllC.c T.f_Plan_kept_state (AllC.c T.f_RawPlan_kept_state AllC.n))) (a_cons (e_fld ["Plan", "RawPlan"] (e_var 0) (AllC.c T.f_Plan_kept_steps (AllC.c T.f_RawPlan_kept_steps AllC.n))) a_nil)))) s_nil)
theorem sc_Plan_steps : FnScope ["self"] ["self"] (defScope (inClass (topS 19) 3)) := ⟨rfl, rfl, rfl, by decide +kernel, rfl, by decide +kernel, by decide +kernel⟩
theorem ok_Plan_steps {f : Addr} {fd : FuncData} (F : Fun K "steps" "Plan.steps" (inClass (topS 19) 3) f fd) (T : Txt K mg)  : FnOk P w K mg base (L2.CX P w) 1 f fd ["self"] (spM K mg m_Plan_steps) :=
  fn_okK F sc_Plan_steps b_Plan_steps fun cdv A outer s H E hr =>
    (s_seq (s_ret (e_fld ["Plan", "RawPlan"] (e_var 0) (AllC.c T.f_Plan_kept_steps (AllC.c T.f_RawPlan_kept_steps AllC.n)))) s_nil)
theorem sc__law_with : FnScope ["short", "lot", "found", "place"] ["short", "lot"] (defScope (topS 36)) := ⟨rfl, rfl, rfl, by decide +kernel, rfl, by decide +kernel, by decide +kernel⟩
theorem ok__law_with {f : Addr} {fd : FuncData} (F : Fun K "_law_with" "_law_with" (topS 36) f fd) (T : Txt K mg)  : FnOk P w K mg base (L2.CX P w) 1 f fd ["short", "lot"] (spM K mg m__law_with) :=
  fn_ok F sc__law_with b__law_with fun cdv A outer s H E hr =>
    (s_seq (s_set 2 (e_new (f_lst a_nil)) sc__law_with.nd) (s_seq (s_for (p := (.nm 3)) (passes_of rfl) (i_range1 T.b_range (a_cons (e_bin op_add3 fol_add (e_len T.b_len (a_cons (e_var 0) a_nil)) e_int) a_nil)) (pg_nmP (i := 3) sc__law_with.nd rfl) (s_seq (s_if (t_cmp (op_inA (hu65 hr)) fol_in (e_var 3) (e_var 1)) (s_seq (s_expr (e_app (e_var 2) (a_cons (e_tup (a_cons e_str a_nil)) a_nil))) s_nil) s_nil) (s_seq (s_if (t_cmp (op_cLt (hu65 hr)) fol_cLt (e_var 3) (e_len T.b_len (a_cons (e_var 0) a_nil))) (s_seq (s_expr (e_app (e_var 2) (a_cons (e_ix (e_var 0) (e_var 3)) a_nil))) s_nil) s_nil) s_nil))) (s_seq (s_ret (e_tuple T.b_tuple (a_cons (e_var 2) a_nil))) s_nil)))
theorem sc_places_of : FnScope ["plan", "found", "place", "step"] ["plan"] (defScope (topS 24)) := ⟨rfl, rfl, rfl, by decide +kernel, rfl, by decide +kernel, by decide +kernel⟩
theorem ok_places_of {f : Addr} {fd : FuncData} (F : Fun K "places_of" "places_of" (topS 24) f fd) (T : Txt K mg)  : FnOk P w K mg base (L2.CX P w) 1 f fd ["plan"] (spM K mg m_places_of) :=
  fn_ok F sc_places_of b_places_of fun cdv A outer s H E hr =>
    (s_seq (s_set 1 e_dnew sc_places_of.nd) (s_seq (s_set 2 e_int sc_places_of.nd) (s_seq (s_for (p := (.nm 3)) (passes_of rfl) (i_seq (e_fld ["Plan", "RawPlan"] (e_var 0) (AllC.c T.f_Plan_kept_steps (AllC.c T.f_RawPlan_kept_steps AllC.n)))) (pg_nmP (i := 3) sc_places_of.nd rfl) (s_seq (s_if (t_cmp (op_eqD (hu64 hr)) fol_eq (e_ix (e_var 3) e_int) e_str) (s_seq (s_dput (hu1 hr) (e_var 1) (e_var 2) e_bl) s_nil) (s_seq (s_aug 2 ip_add e_int sc_places_of.nd) s_nil)) s_nil)) (s_seq (s_ret (e_tuple T.b_tuple (a_cons (e_L (f_sortB T.b_sorted (a_cons (e_var 1) a_nil))) a_nil))) s_nil))))
theorem sc_Plan_state : FnScope ["self"] ["self"] (defScope (inClass (topS 19) 2)) := ⟨rfl, rfl, rfl, by decide +kernel, rfl, by decide +kernel, by decide +kernel⟩
theorem ok_Plan_state {f : Addr} {fd : FuncData} (F : Fun K "state" "Plan.state" (inClass (topS 19) 2) f fd) (T : Txt K mg)  : FnOk P w K mg base (L2.CX P w) 1 f fd ["self"] (spM K mg m_Plan_state) :=
  fn_okK F sc_Plan_state b_Plan_state fun cdv A outer s H E hr =>
    (s_seq (s_ret (e_fld ["Plan", "RawPlan"] (e_var 0) (AllC.c T.f_Plan_kept_state (AllC.c T.f_RawPlan_kept_state AllC.n)))) s_nil)
theorem sc__law_value : FnScope ["hand", "k"] ["hand"] (defScope (topS 31)) := ⟨rfl, rfl, rfl, by decide +kernel, rfl, by decide +kernel, by decide +kernel⟩
theorem ok__law_value {f : Addr} {fd : FuncData} (F : Fun K "_law_value" "_law_value" (topS 31) f fd) (T : Txt K mg) (c__law_draw : Has P w K mg base "_law_draw" 1 ["hand", "many"] (spM K mg m__law_draw)) : FnOk P w K mg base (L2.CX P w) 2 f fd ["hand"] (spM K mg m__law_value) :=
  fn_ok F sc__law_value b__law_value fun cdv A outer s H E hr =>
    (s_seq (s_ret (e_tuple T.b_tuple (a_cons (e_L (f_lc (own := [("k", 1)]) (.nm 1) sc__law_value.nd (i_range1 T.b_range (a_cons (e_ix (e_L (f_lst (a_cons e_int (a_cons e_int (a_cons e_int (a_cons e_int a_nil)))))) (e_callH c__law_draw hr (takes_of rfl rfl rfl rfl) (a_cons (e_var 0) (a_cons e_int a_nil)))) a_nil)) (blkOk_by (by rfl)) (fun _ _ _ _ _ => (pg_nmP (i := 1) sc__law_value.nd rfl)) (fun _ _ _ _ _ => p_yes) (fun _ _ _ _ _ => (e_callH c__law_draw hr takes0 (a_cons (e_var 0) (a_cons e_int a_nil)))) (by decide))) a_nil))) s_nil)
theorem sc__law_any : FnScope ["hand", "things"] ["hand", "things"] (defScope (topS 33)) := ⟨rfl, rfl, rfl, by decide +kernel, rfl, by decide +kernel, by decide +kernel⟩
theorem ok__law_any {f : Addr} {fd : FuncData} (F : Fun K "_law_any" "_law_any" (topS 33) f fd) (T : Txt K mg) (c__law_draw : Has P w K mg base "_law_draw" 1 ["hand", "many"] (spM K mg m__law_draw)) : FnOk P w K mg base (L2.CX P w) 2 f fd ["hand", "things"] (spM K mg m__law_any) :=
  fn_ok F sc__law_any b__law_any fun cdv A outer s H E hr =>
    (s_seq (s_ret (e_ix (e_var 1) (e_callH c__law_draw hr (takes_of rfl rfl rfl rfl) (a_cons (e_var 0) (a_cons (e_len T.b_len (a_cons (e_var 1) a_nil)) a_nil))))) s_nil)
theorem sc_is_between : FnScope ["thing", "least", "most"] ["thing", "least", "most"] (defScope (topS 9)) := ⟨rfl, rfl, rfl, by decide +kernel, rfl, by decide +kernel, by decide +kernel⟩
theorem ok_is_between {f : Addr} {fd : FuncData} (F : Fun K "is_between" "is_between" (topS 9) f fd) (T : Txt K mg) (c_is_integer : Has P w K mg base "is_integer" 1 ["thing"] (spM K mg m_is_integer)) : FnOk P w K mg base (L2.CX P w) 2 f fd ["thing", "least", "most"] (spM K mg m_is_between) :=
  fn_ok F sc_is_between b_is_between fun cdv A outer s H E hr =>
    (s_seq (s_ret (e_and (e_callH c_is_integer hr (takes_of rfl rfl rfl rfl) (a_cons (e_var 0) a_nil)) (e_one (e_chain (op_cLe (hu65 hr)) (op_cLe (hu65 hr)) fol_cLe fol_cLe (e_var 1) (e_var 0) (e_var 2))))) s_nil)
theorem sc_RawPlan___init__ : FnScope ["self", "state", "steps"] ["self", "state", "steps"] (defScope (inClass (topS 20) 0)) := ⟨rfl, rfl, rfl, by decide +kernel, rfl, by decide +kernel, by decide +kernel⟩
theorem ok_RawPlan___init__ {f : Addr} {fd : FuncData} (F : Fun K "__init__" "RawPlan.__init__" (inClass (topS 20) 0) f fd) (T : Txt K mg) (c_RawPlan_keep : MthOk P w K mg base "RawPlan" "keep" 1 ["self", "state", "steps"] (spM K mg m_Plan_keep)) : FnOk P w K mg base (L2.CX P w) 2 f fd ["self", "state", "steps"] (spM K mg m_RawPlan___init__) :=
  fn_okK F sc_RawPlan___init__ b_RawPlan___init__ fun cdv A outer s H E hr =>
    (s_seq (s_expr (e_meth (m := "keep") (tb_cons c_RawPlan_keep tb_nil) hr (takes_of rfl rfl rfl rfl) (e_var 0) (a_cons (e_var 1) (a_cons (e_var 2) a_nil)))) s_nil)
theorem sc_Plan___eq__ : FnScope ["self", "other"] ["self", "other"] (defScope (inClass (topS 19) 5)) := ⟨rfl, rfl, rfl, by decide +kernel, rfl, by decide +kernel, by decide +kernel⟩
theorem ok_Plan___eq__ {f : Addr} {fd : FuncData} (F : Fun K "__eq__" "Plan.__eq__" (inClass (topS 19) 5) f fd) (T : Txt K mg) (c_Plan_parts : MthOk P w K mg base "Plan" "parts" 1 ["self"] (spM K mg m_Plan_parts)) (c_RawPlan_parts : MthOk P w K mg base "RawPlan" "parts" 1 ["self"] (spM K mg m_Plan_parts)) : FnOk P w K mg base (L2.CX P w) 2 f fd ["self", "other"] (spM K mg m_Plan___eq__) :=
  fn_okK F sc_Plan___eq__ b_Plan___eq__ fun cdv A outer s H E hr =>
    (s_seq (s_ret (e_and (e_isiI T.b_isinstance T.o_Plan (kits_cons T.ki_Plan_Plan (kits_cons T.ki_RawPlan_Plan kits_nil)) (e_var 1)) (e_one (e_cmp (op_eqD (hu64 hr)) fol_eq (e_meth0 (m := "parts") (tb_cons c_Plan_parts (tb_cons c_RawPlan_parts tb_nil)) hr (takes_of rfl rfl rfl rfl) (e_var 0)) (e_meth0 (m := "parts") (tb_cons c_Plan_parts (tb_cons c_RawPlan_parts tb_nil)) hr (takes_of rfl rfl rfl rfl) (e_var 1)))))) s_nil)
theorem sc_places : FnScope ["plan"] ["plan"] (defScope (topS 25)) := ⟨rfl, rfl, rfl, by decide +kernel, rfl, by decide +kernel, by decide +kernel⟩
theorem ok_places {f : Addr} {fd : FuncData} (F : Fun K "places" "places" (topS 25) f fd) (T : Txt K mg) (c_places_of : Has P w K mg base "places_of" 1 ["plan"] (spM K mg m_places_of)) : FnOk P w K mg base (L2.CX P w) 2 f fd ["plan"] (spM K mg m_places) :=
  fn_ok F sc_places b_places fun cdv A outer s H E hr =>
    (s_seq (s_ret (e_callH c_places_of hr (takes_of rfl rfl rfl rfl) (a_cons (e_var 0) a_nil))) s_nil)
theorem sc__law_pool : FnScope ["hand", "found", "k", "value"] ["hand"] (defScope (topS 32)) := ⟨rfl, rfl, rfl, by decide +kernel, rfl, by decide +kernel, by decide +kernel⟩
theorem ok__law_pool {f : Addr} {fd : FuncData} (F : Fun K "_law_pool" "_law_pool" (topS 32) f fd) (T : Txt K mg) (c__law_value : Has P w K mg base "_law_value" 2 ["hand"] (spM K mg m__law_value)) : FnOk P w K mg base (L2.CX P w) 3 f fd ["hand"] (spL K mg m__law_pool) :=
  fn_okL F sc__law_pool b__law_pool fun cdv A outer s H E hr =>
    (s_seq (s_set 1 (e_new (f_lst a_nil)) sc__law_pool.nd) (s_seq (s_for (p := (.nm 2)) (passes_of rfl) (i_range1 T.b_range (a_cons e_int a_nil)) (pg_nmP (i := 2) sc__law_pool.nd rfl) (s_seq (s_set 3 (e_callH c__law_value hr (takes_of rfl rfl rfl rfl) (a_cons (e_var 0) a_nil)) sc__law_pool.nd) (s_seq (s_if (t_cmp (op_notInA (hu65 hr)) fol_notIn (e_var 3) (e_var 1)) (s_seq (s_expr (e_app (e_var 1) (a_cons (e_var 3) a_nil))) s_nil) s_nil) s_nil))) (s_seq (s_ret (e_var 1)) s_nil)))
theorem sc__law_steps : FnScope ["hand", "pool", "sectors", "many", "found", "under", "k", "way"] ["hand", "pool", "sectors", "many"] (defScope (topS 34)) := ⟨rfl, rfl, rfl, by decide +kernel, rfl, by decide +kernel, by decide +kernel⟩
theorem ok__law_steps {f : Addr} {fd : FuncData} (F : Fun K "_law_steps" "_law_steps" (topS 34) f fd) (T : Txt K mg) (c__law_draw : Has P w K mg base "_law_draw" 1 ["hand", "many"] (spM K mg m__law_draw)) (c__law_any : Has P w K mg base "_law_any" 2 ["hand", "things"] (spM K mg m__law_any)) : FnOk P w K mg base (L2.CX P w) 3 f fd ["hand", "pool", "sectors", "many"] (spM K mg m__law_steps) :=
  fn_ok F sc__law_steps b__law_steps fun cdv A outer s H E hr =>
    (s_seq (s_set 4 (e_new (f_lst a_nil)) sc__law_steps.nd) (s_seq (s_set 5 e_int sc__law_steps.nd) (s_seq (s_for (p := (.nm 6)) (passes_of rfl) (i_range1 T.b_range (a_cons (e_var 3) a_nil)) (pg_nmP (i := 6) sc__law_steps.nd rfl) (s_seq (s_set 7 (e_callH c__law_draw hr (takes_of rfl rfl rfl rfl) (a_cons (e_var 0) (a_cons e_int a_nil))) sc__law_steps.nd) (s_seq (s_if (t_cmp (op_cLt (hu65 hr)) fol_cLt (e_var 7) e_int) (s_seq (s_expr (e_app (e_var 4) (a_cons (e_tup (a_cons e_str (a_cons (e_callH c__law_draw hr (takes_of rfl rfl rfl rfl) (a_cons (e_var 0) (a_cons (e_var 2) a_nil))) (a_cons (e_callH c__law_any hr (takes_of rfl rfl rfl rfl) (a_cons (e_var 0) (a_cons (e_var 1) a_nil))) a_nil)))) a_nil))) s_nil) (s_seq (s_if (t_cmp (op_cLt (hu65 hr)) fol_cLt (e_var 7) e_int) (s_seq (s_expr (e_app (e_var 4) (a_cons (e_tup (a_cons e_str a_nil)) a_nil))) s_nil) (s_seq (s_if (w_or (t_cmp (op_eqD (hu64 hr)) fol_eq (e_var 7) e_int) (w_one .Or (t_cmp (op_eqD (hu64 hr)) fol_eq (e_var 5) e_int))).pt (s_seq (s_expr (e_app (e_var 4) (a_cons (e_tup (a_cons e_str a_nil)) a_nil))) (s_seq (s_set 5 (e_bin op_add3 fol_add (e_var 5) e_int) sc__law_steps.nd) s_nil)) (s_seq (s_expr (e_app (e_var 4) (a_cons (e_tup (a_cons e_str a_nil)) a_nil))) (s_seq (s_set 5 (e_bin op_sub fol_sub (e_var 5) e_int) sc__law_steps.nd) s_nil))) s_nil)) s_nil)) s_nil))) (s_seq (s_ret (e_tuple T.b_tuple (a_cons (e_var 4) a_nil))) s_nil))))
theorem sc_is_value : FnScope ["thing", "item"] ["thing"] (defScope (topS 11)) := ⟨rfl, rfl, rfl, by decide +kernel, rfl, by decide +kernel, by decide +kernel⟩
theorem ok_is_value {f : Addr} {fd : FuncData} (F : Fun K "is_value" "is_value" (topS 11) f fd) (T : Txt K mg) (c_is_between : Has P w K mg base "is_between" 2 ["thing", "least", "most"] (spM K mg m_is_between)) : FnOk P w K mg base (L2.CX P w) 3 f fd ["thing"] (spM K mg m_is_value) :=
  fn_ok F sc_is_value b_is_value fun cdv A outer s H E hr =>
    (s_seq (s_if (w_or (t_not (t_tru (e_isi .tup T.b_isinstance T.b_tuple (e_var 0)))) (w_one .Or (t_cmp (op_cGt (hu65 hr)) fol_cGt (e_len T.b_len (a_cons (e_var 0) a_nil)) (e_globI T.g_MOST_ITEMS)))).pt (s_seq (s_ret e_bl) s_nil) s_nil) (s_seq (s_ret (e_all T.b_all (a_cons (e_L (f_lc (own := [("item", 1)]) (.nm 1) sc_is_value.nd (i_seq (e_var 0)) (blkOk_by (by rfl)) (fun _ _ _ _ _ => (pg_nmP (i := 1) sc_is_value.nd rfl)) (fun _ _ _ _ _ => p_yes) (fun _ _ _ _ _ => (e_callH c_is_between hr takes0 (a_cons (e_var 1) (a_cons e_int (a_cons (e_globI T.g_MOST_ITEM) a_nil))))) (by decide))) a_nil))) s_nil))
theorem sc_is_index : FnScope ["thing", "many"] ["thing", "many"] (defScope (topS 10)) := ⟨rfl, rfl, rfl, by decide +kernel, rfl, by decide +kernel, by decide +kernel⟩
theorem ok_is_index {f : Addr} {fd : FuncData} (F : Fun K "is_index" "is_index" (topS 10) f fd) (T : Txt K mg) (c_is_between : Has P w K mg base "is_between" 2 ["thing", "least", "most"] (spM K mg m_is_between)) : FnOk P w K mg base (L2.CX P w) 3 f fd ["thing", "many"] (spM K mg m_is_index) :=
  fn_ok F sc_is_index b_is_index fun cdv A outer s H E hr =>
    (s_seq (s_ret (e_callH c_is_between hr (takes_of rfl rfl rfl rfl) (a_cons (e_var 0) (a_cons e_int (a_cons (e_bin op_sub fol_sub (e_var 1) e_int) a_nil))))) s_nil)
theorem sc_is_held : FnScope ["thing"] ["thing"] (defScope (topS 12)) := ⟨rfl, rfl, rfl, by decide +kernel, rfl, by decide +kernel, by decide +kernel⟩
theorem ok_is_held {f : Addr} {fd : FuncData} (F : Fun K "is_held" "is_held" (topS 12) f fd) (T : Txt K mg) (c_is_value : Has P w K mg base "is_value" 3 ["thing"] (spM K mg m_is_value)) : FnOk P w K mg base (L2.CX P w) 4 f fd ["thing"] (spM K mg m_is_held) :=
  fn_ok F sc_is_held b_is_held fun cdv A outer s H E hr =>
    (s_seq (s_ret (e_or (e_cmp op_isN fol_isN (e_var 0) e_non) (e_one (e_callH c_is_value hr (takes_of rfl rfl rfl rfl) (a_cons (e_var 0) a_nil))))) s_nil)
theorem sc_is_disk_step : FnScope ["thing", "sectors"] ["thing", "sectors"] (defScope (topS 15)) := ⟨rfl, rfl, rfl, by decide +kernel, rfl, by decide +kernel, by decide +kernel⟩
theorem ok_is_disk_step {f : Addr} {fd : FuncData} (F : Fun K "is_disk_step" "is_disk_step" (topS 15) f fd) (T : Txt K mg) (c_is_index : Has P w K mg base "is_index" 3 ["thing", "many"] (spM K mg m_is_index)) (c_is_value : Has P w K mg base "is_value" 3 ["thing"] (spM K mg m_is_value)) : FnOk P w K mg base (L2.CX P w) 4 f fd ["thing", "sectors"] (spM K mg m_is_disk_step) :=
  fn_ok F sc_is_disk_step b_is_disk_step fun cdv A outer s H E hr =>
    (s_seq (s_if (w_or (t_not (t_tru (e_isi .tup T.b_isinstance T.b_tuple (e_var 0)))) (w_or (t_cmp (op_eqD (hu64 hr)) fol_eq (e_len T.b_len (a_cons (e_var 0) a_nil)) e_int) (w_one .Or (t_not (t_tru (e_isi .str T.b_isinstance T.b_str (e_ix (e_var 0) e_int))))))).pt (s_seq (s_ret e_bl) s_nil) s_nil) (s_seq (s_if (t_cmp (op_eqD (hu64 hr)) fol_eq (e_ix (e_var 0) e_int) e_str) (s_seq (s_ret (e_cmp (op_eqD (hu64 hr)) fol_eq (e_len T.b_len (a_cons (e_var 0) a_nil)) e_int)) s_nil) s_nil) (s_seq (s_ret (e_and (e_cmp (op_eqD (hu64 hr)) fol_eq (e_ix (e_var 0) e_int) e_str) (e_and (e_cmp (op_eqD (hu64 hr)) fol_eq (e_len T.b_len (a_cons (e_var 0) a_nil)) e_int) (e_and (e_callH c_is_index hr (takes_of rfl rfl rfl rfl) (a_cons (e_ix (e_var 0) e_int) (a_cons (e_var 1) a_nil))) (e_one (e_callH c_is_value hr (takes_of rfl rfl rfl rfl) (a_cons (e_ix (e_var 0) e_int) a_nil))))))) s_nil)))
theorem sc_check_places : FnScope ["plan", "thing", "many", "place", "one", "other"] ["plan", "thing"] (defScope (topS 26)) := ⟨rfl, rfl, rfl, by decide +kernel, rfl, by decide +kernel, by decide +kernel⟩
theorem ok_check_places {f : Addr} {fd : FuncData} (F : Fun K "check_places" "check_places" (topS 26) f fd) (T : Txt K mg) (c_bare_steps : Has P w K mg base "bare_steps" 1 ["plan"] (spM K mg m_bare_steps)) (c_is_index : Has P w K mg base "is_index" 3 ["thing", "many"] (spM K mg m_is_index)) : FnOk P w K mg base (L2.CX P w) 4 f fd ["plan", "thing"] (spM K mg m_check_places) :=
  fn_ok F sc_check_places b_check_places fun cdv A outer s H E hr =>
    (s_seq (s_set 2 (e_bin op_add3 fol_add (e_len T.b_len (a_cons (e_callH c_bare_steps hr (takes_of rfl rfl rfl rfl) (a_cons (e_var 0) a_nil)) a_nil)) e_int) sc_check_places.nd) (s_seq (s_if (w_or (t_not (t_tru (e_isiC [] .tup T.b_isinstance T.b_tuple (e_var 1) AllC.n))) (w_one .Or (t_not (t_tru (e_all T.b_all (a_cons (e_L (f_lc (own := [("place", 3)]) (.nm 3) sc_check_places.nd (i_seq (e_var 1)) (blkOk_by (by rfl)) (fun _ _ _ _ _ => (pg_nmP (i := 3) sc_check_places.nd rfl)) (fun _ _ _ _ _ => p_yes) (fun _ _ _ _ _ => (e_callH c_is_index hr takes0 (a_cons (e_var 3) (a_cons (e_var 2) a_nil)))) (by decide))) a_nil)))))).pt (s_seq (s_raise0 T.x_NoPlaces (takes_of rfl rfl rfl rfl)) s_nil) s_nil) (s_seq (s_if (t_tru (e_any T.b_any (a_cons (e_L (f_lc (own := [("one", 4), ("other", 5)]) (.tp [(.nm 4), (.nm 5)]) sc_check_places.nd (i_zip T.b_zip (a_cons (e_var 1) (a_cons (e_sl (e_var 1) (o_some e_int) o_none) a_nil))) (blkOk_by (by rfl)) (fun _ _ _ _ _ => (pg_tpP rfl (pgs_consP (pg_nmP (i := 4) sc_check_places.nd rfl) (pgs_consP (pg_nmP (i := 5) sc_check_places.nd rfl) pgs_nilP)))) (fun _ _ _ _ _ => p_yes) (fun _ _ _ _ _ => (e_cmp (op_cGe (hu65 hr)) fol_cGe (e_var 4) (e_var 5))) (by decide))) a_nil))) (s_seq (s_raise0 T.x_NoPlaces (takes_of rfl rfl rfl rfl)) s_nil) s_nil) s_nil)))
theorem sc_bare : FnScope ["plan"] ["plan"] (defScope (topS 23)) := ⟨rfl, rfl, rfl, by decide +kernel, rfl, by decide +kernel, by decide +kernel⟩
theorem ok_bare {f : Addr} {fd : FuncData} (F : Fun K "bare" "bare" (topS 23) f fd) (T : Txt K mg) (k_RawPlan : MakOk P w K mg base "RawPlan" 2 ["self", "state", "steps"] (spM K mg m_RawPlan___init__)) (c_bare_steps : Has P w K mg base "bare_steps" 1 ["plan"] (spM K mg m_bare_steps)) : FnOk P w K mg base (L2.CX P w) 4 f fd ["plan"] (spM K mg m_bare) :=
  fn_okK F sc_bare b_bare fun cdv A outer s H E hr =>
    (s_seq (s_ret (e_make k_RawPlan hr (takes_of rfl rfl rfl rfl) (a_cons (e_fld ["Plan", "RawPlan"] (e_var 0) (AllC.c T.f_Plan_kept_state (AllC.c T.f_RawPlan_kept_state AllC.n))) (a_cons (e_callH c_bare_steps hr (takes_of rfl rfl rfl rfl) (a_cons (e_var 0) a_nil)) a_nil)))) s_nil)
theorem sc_is_state : FnScope ["thing", "item"] ["thing"] (defScope (topS 13)) := ⟨rfl, rfl, rfl, by decide +kernel, rfl, by decide +kernel, by decide +kernel⟩
theorem ok_is_state {f : Addr} {fd : FuncData} (F : Fun K "is_state" "is_state" (topS 13) f fd) (T : Txt K mg) (c_is_held : Has P w K mg base "is_held" 4 ["thing"] (spM K mg m_is_held)) : FnOk P w K mg base (L2.CX P w) 5 f fd ["thing"] (spM K mg m_is_state) :=
  fn_ok F sc_is_state b_is_state fun cdv A outer s H E hr =>
    (s_seq (s_ret (e_and (e_isi .tup T.b_isinstance T.b_tuple (e_var 0)) (e_and (e_chain (op_cLe (hu65 hr)) (op_cLe (hu65 hr)) fol_cLe fol_cLe e_int (e_len T.b_len (a_cons (e_var 0) a_nil)) (e_globI T.g_MOST_SECTORS)) (e_one (e_all T.b_all (a_cons (e_L (f_lc (own := [("item", 1)]) (.nm 1) sc_is_state.nd (i_seq (e_var 0)) (blkOk_by (by rfl)) (fun _ _ _ _ _ => (pg_nmP (i := 1) sc_is_state.nd rfl)) (fun _ _ _ _ _ => p_yes) (fun _ _ _ _ _ => (e_callH c_is_held hr takes0 (a_cons (e_var 1) a_nil))) (by decide))) a_nil)))))) s_nil)
theorem sc_with_barriers : FnScope ["plan", "lot", "steps", "found", "place"] ["plan", "lot"] (defScope (topS 27)) := ⟨rfl, rfl, rfl, by decide +kernel, rfl, by decide +kernel, by decide +kernel⟩
theorem ok_with_barriers {f : Addr} {fd : FuncData} (F : Fun K "with_barriers" "with_barriers" (topS 27) f fd) (T : Txt K mg) (c_check_places : Has P w K mg base "check_places" 4 ["plan", "thing"] (spM K mg m_check_places)) (c_bare_steps : Has P w K mg base "bare_steps" 1 ["plan"] (spM K mg m_bare_steps)) (k_RawPlan : MakOk P w K mg base "RawPlan" 2 ["self", "state", "steps"] (spM K mg m_RawPlan___init__)) : FnOk P w K mg base (L2.CX P w) 5 f fd ["plan", "lot"] (spM K mg m_with_barriers) :=
  fn_okK F sc_with_barriers b_with_barriers fun cdv A outer s H E hr =>
    (s_seq (s_expr (e_callH c_check_places hr (takes_of rfl rfl rfl rfl) (a_cons (e_var 0) (a_cons (e_var 1) a_nil)))) (s_seq (s_set 2 (e_callH c_bare_steps hr (takes_of rfl rfl rfl rfl) (a_cons (e_var 0) a_nil)) sc_with_barriers.nd) (s_seq (s_set 3 (e_new (f_lst a_nil)) sc_with_barriers.nd) (s_seq (s_for (p := (.nm 4)) (passes_of rfl) (i_range1 T.b_range (a_cons (e_bin op_add3 fol_add (e_len T.b_len (a_cons (e_var 2) a_nil)) e_int) a_nil)) (pg_nmP (i := 4) sc_with_barriers.nd rfl) (s_seq (s_if (t_cmp (op_inA (hu65 hr)) fol_in (e_var 4) (e_var 1)) (s_seq (s_expr (e_app (e_var 3) (a_cons (e_tup (a_cons e_str a_nil)) a_nil))) s_nil) s_nil) (s_seq (s_expr (e_extT (e_var 3) (a_cons (e_sl (e_var 2) (o_some (e_var 4)) (o_some (e_bin op_add3 fol_add (e_var 4) e_int))) a_nil))) s_nil))) (s_seq (s_ret (e_make k_RawPlan hr (takes_of rfl rfl rfl rfl) (a_cons (e_fld ["Plan", "RawPlan"] (e_var 0) (AllC.c T.f_Plan_kept_state (AllC.c T.f_RawPlan_kept_state AllC.n))) (a_cons (e_tuple T.b_tuple (a_cons (e_var 3) a_nil)) a_nil)))) s_nil)))))
theorem sc_Plan___init__ : FnScope ["self", "state", "steps", "under_way", "index", "step"] ["self", "state", "steps"] (defScope (inClass (topS 19) 0)) := ⟨rfl, rfl, rfl, by decide +kernel, rfl, by decide +kernel, by decide +kernel⟩
theorem ok_Plan___init__ {f : Addr} {fd : FuncData} (F : Fun K "__init__" "Plan.__init__" (inClass (topS 19) 0) f fd) (T : Txt K mg) (c_Plan_keep : MthOk P w K mg base "Plan" "keep" 1 ["self", "state", "steps"] (spM K mg m_Plan_keep)) (c_RawPlan_keep : MthOk P w K mg base "RawPlan" "keep" 1 ["self", "state", "steps"] (spM K mg m_Plan_keep)) (c_is_state : Has P w K mg base "is_state" 5 ["thing"] (spM K mg m_is_state)) (c_is_disk_step : Has P w K mg base "is_disk_step" 4 ["thing", "sectors"] (spM K mg m_is_disk_step)) (c_is_deed_step : Has P w K mg base "is_deed_step" 1 ["thing"] (spM K mg m_is_deed_step)) : FnOk P w K mg base (L2.CX P w) 6 f fd ["self", "state", "steps"] (spM K mg m_Plan___init__) :=
  fn_okK F sc_Plan___init__ b_Plan___init__ fun cdv A outer s H E hr =>
    (s_seq (s_if (w_or (t_not (t_tru (e_callH c_is_state hr (takes_of rfl rfl rfl rfl) (a_cons (e_var 1) a_nil)))) (w_one .Or (t_cmp (op_inA (hu65 hr)) fol_in e_non (e_var 1)))).pt (s_seq s_never s_nil) s_nil) (s_seq (s_if (w_or (t_not (t_tru (e_isi .tup T.b_isinstance T.b_tuple (e_var 2)))) (w_one .Or (t_cmp (op_cGt (hu65 hr)) fol_cGt (e_len T.b_len (a_cons (e_var 2) a_nil)) (e_globI T.g_MOST_STEPS)))).pt (s_seq s_never s_nil) s_nil) (s_seq (s_set 3 e_int sc_Plan___init__.nd) (s_seq (s_for (p := (.tp [(.nm 4), (.nm 5)])) (passes_of rfl) (i_enum T.b_enumerate (a_cons (e_var 2) a_nil)) (pg_tpP rfl (pgs_consP (pg_nmP (i := 4) sc_Plan___init__.nd rfl) (pgs_consP (pg_nmP (i := 5) sc_Plan___init__.nd rfl) pgs_nilP))) (s_seq (s_if (w_and (t_not (t_tru (e_callH c_is_disk_step hr (takes_of rfl rfl rfl rfl) (a_cons (e_var 5) (a_cons (e_len T.b_len (a_cons (e_var 1) a_nil)) a_nil))))) (w_one .And (t_not (t_tru (e_callH c_is_deed_step hr (takes_of rfl rfl rfl rfl) (a_cons (e_var 5) a_nil)))))).pt (s_seq s_never s_nil) s_nil) (s_seq (s_aug 3 ip_add (e_bin op_sub fol_sub (e_int1 T.b_int (a_cons (e_cmp (op_eqD (hu64 hr)) fol_eq (e_ix (e_var 5) e_int) e_str) a_nil)) (e_int1 T.b_int (a_cons (e_cmp (op_eqD (hu64 hr)) fol_eq (e_ix (e_var 5) e_int) e_str) a_nil))) sc_Plan___init__.nd) (s_seq (s_if (t_cmp (op_cLt (hu65 hr)) fol_cLt (e_var 3) e_int) (s_seq s_never s_nil) s_nil) s_nil)))) (s_seq (s_expr (e_meth (m := "keep") (tb_cons c_Plan_keep (tb_cons c_RawPlan_keep tb_nil)) hr (takes_of rfl rfl rfl rfl) (e_var 0) (a_cons (e_var 1) (a_cons (e_var 2) a_nil)))) s_nil)))))
theorem sc__law_told : FnScope ["plan", "lot", "told"] ["plan", "lot"] (defScope (topS 37)) := ⟨rfl, rfl, rfl, by decide +kernel, rfl, by decide +kernel, by decide +kernel⟩
theorem ok__law_told {f : Addr} {fd : FuncData} (F : Fun K "_law_told" "_law_told" (topS 37) f fd) (T : Txt K mg) (c_Plan_steps : MthOk P w K mg base "Plan" "steps" 1 ["self"] (spM K mg m_Plan_steps)) (c_RawPlan_steps : MthOk P w K mg base "RawPlan" "steps" 1 ["self"] (spM K mg m_Plan_steps)) (c_with_barriers : Has P w K mg base "with_barriers" 5 ["plan", "lot"] (spM K mg m_with_barriers)) : FnOk P w K mg base (L2.CX P w) 6 f fd ["plan", "lot"] (spM K mg m__law_told) :=
  fn_ok F sc__law_told b__law_told fun cdv A outer s H E hr =>
    (s_seq (s_set 2 e_str sc__law_told.nd) (s_seq (s_tryO T.n_NoPlaces (takes_of rfl rfl rfl rfl) (fun W pn xe tkb hpb => (s_seq (s_set 2 (e_meth0 (m := "steps") (tb_cons c_Plan_steps (tb_cons c_RawPlan_steps tb_nil)) hr tkb (e_callH c_with_barriers hr tkb (a_cons (e_var 0) (a_cons (e_var 1) a_nil)))) sc__law_told.nd) s_nil)) (fun cl hcl => (tyO_some (T.k_NoPlaces_NoPlaces.ex cl hcl) (fun a oe pn => (s_seq (s_set 2 e_str sc__law_told.nd) s_nil)) tyO_nil))) (s_seq (s_ret (e_var 2)) s_nil)))
theorem sc__law_long_right : FnScope ["hand", "many", "steps", "plan", "lot", "told", "again", "k", "place"] ["hand"] (defScope (topS 38)) := ⟨rfl, rfl, rfl, by decide +kernel, rfl, by decide +kernel, by decide +kernel⟩
theorem ok__law_long_right {f : Addr} {fd : FuncData} (F : Fun K "_law_long_right" "_law_long_right" (topS 38) f fd) (T : Txt K mg) (k_Plan : MakOk P w K mg base "Plan" 6 ["self", "state", "steps"] (spM K mg m_Plan___init__)) (c_with_barriers : Has P w K mg base "with_barriers" 5 ["plan", "lot"] (spM K mg m_with_barriers)) (c__law_draw : Has P w K mg base "_law_draw" 1 ["hand", "many"] (spM K mg m__law_draw)) (c_RawPlan___eq__ : MthOk P w K mg base "RawPlan" "__eq__" 2 ["self", "other"] (spM K mg m_Plan___eq__)) (c_Plan_steps : MthOk P w K mg base "Plan" "steps" 1 ["self"] (spM K mg m_Plan_steps)) (c_RawPlan_steps : MthOk P w K mg base "RawPlan" "steps" 1 ["self"] (spM K mg m_Plan_steps)) (c__law_with : Has P w K mg base "_law_with" 1 ["short", "lot"] (spM K mg m__law_with)) (c_places : Has P w K mg base "places" 2 ["plan"] (spM K mg m_places)) (c_bare : Has P w K mg base "bare" 4 ["plan"] (spM K mg m_bare)) : FnOk P w K mg base (L2.CX P w) 8 f fd ["hand"] (spM K mg m__law_long_right) :=
  fn_ok F sc__law_long_right b__law_long_right fun cdv A outer s H E hr =>
    (s_seq (s_set 1 (e_bin op_add3 fol_add e_int (e_callH c__law_draw hr (takes_of rfl rfl rfl rfl) (a_cons (e_var 0) (a_cons e_int a_nil)))) sc__law_long_right.nd) (s_seq (s_set 2 (e_tuple T.b_tuple (a_cons (e_L (f_lc (own := [("k", 7)]) (.nm 7) sc__law_long_right.nd (i_range1 T.b_range (a_cons (e_var 1) a_nil)) (blkOk_by (by rfl)) (fun _ _ _ _ _ => (pg_nmP (i := 7) sc__law_long_right.nd rfl)) (fun _ _ _ _ _ => p_yes) (fun _ _ _ _ _ => (e_tup (a_cons e_str (a_cons (e_callH c__law_draw hr takes0 (a_cons (e_var 0) (a_cons e_int a_nil))) (a_cons (e_tup (a_cons (e_bin op_mod fol_mod (e_int1 T.b_int (a_cons (e_var 7) a_nil)) e_int) a_nil)) a_nil))))) (by decide))) a_nil)) sc__law_long_right.nd) (s_seq (s_set 3 (e_make k_Plan hr (takes_of rfl rfl rfl rfl) (a_cons (e_tup (a_cons (e_tup a_nil) (a_cons (e_tup a_nil) a_nil))) (a_cons (e_var 2) a_nil))) sc__law_long_right.nd) (s_seq (s_set 4 (e_tuple T.b_tuple (a_cons (e_L (f_lc (own := [("place", 8)]) (.nm 8) sc__law_long_right.nd (i_range1 T.b_range (a_cons (e_bin op_add3 fol_add (e_var 1) e_int) a_nil)) (blkOk_by (by rfl)) (fun _ _ _ _ _ => (pg_nmP (i := 8) sc__law_long_right.nd rfl)) (fun _ _ _ _ _ => (pts_one (t_cmp (op_cGt (hu65 hr)) fol_cGt (e_callH c__law_draw hr takes0 (a_cons (e_var 0) (a_cons e_int a_nil))) e_int))) (fun _ _ _ _ _ => (e_var 8)) (by decide))) a_nil)) sc__law_long_right.nd) (s_seq (s_set 5 (e_callH c_with_barriers hr (takes_of rfl rfl rfl rfl) (a_cons (e_var 3) (a_cons (e_var 4) a_nil))) sc__law_long_right.nd) (s_seq (s_if (w_or (t_cmp (op_neD (hu64 hr)) fol_ne (e_meth0 (m := "steps") (tb_cons c_Plan_steps (tb_cons c_RawPlan_steps tb_nil)) hr (takes_of rfl rfl rfl rfl) (e_var 5)) (e_callH c__law_with hr (takes_of rfl rfl rfl rfl) (a_cons (e_var 2) (a_cons (e_var 4) a_nil)))) (w_or (t_cmp (op_neD (hu64 hr)) fol_ne (e_callH c_places hr (takes_of rfl rfl rfl rfl) (a_cons (e_var 5) a_nil)) (e_var 4)) (w_one .Or (t_cmp (op_neI hr) (fol_neI (tb_cons c_RawPlan___eq__ tb_nil) (nes_cons T.ne_RawPlan_Plan (nes_cons T.ne_RawPlan_RawPlan nes_nil))) (e_callH c_bare hr (takes_of rfl rfl rfl rfl) (a_cons (e_var 5) a_nil)) (e_var 3))))).pt (s_seq (s_ret e_bl) s_nil) s_nil) (s_seq (s_set 6 (e_callH c_with_barriers hr (takes_of rfl rfl rfl rfl) (a_cons (e_var 5) (a_cons (e_tup (a_cons e_int (a_cons (e_var 1) a_nil))) a_nil))) sc__law_long_right.nd) (s_seq (s_ret (e_and (e_cmp (op_eqD (hu64 hr)) fol_eq (e_meth0 (m := "steps") (tb_cons c_Plan_steps (tb_cons c_RawPlan_steps tb_nil)) hr (takes_of rfl rfl rfl rfl) (e_var 6)) (e_bin op_add3 fol_add (e_bin op_add3 fol_add (e_tup (a_cons (e_tup (a_cons e_str a_nil)) a_nil)) (e_var 2)) (e_tup (a_cons (e_tup (a_cons e_str a_nil)) a_nil)))) (e_one (e_cmp (op_eqD (hu64 hr)) fol_eq (e_callH c_places hr (takes_of rfl rfl rfl rfl) (a_cons (e_callH c_bare hr (takes_of rfl rfl rfl rfl) (a_cons (e_var 5) a_nil)) a_nil)) (e_tup a_nil))))) s_nil))))))))
theorem sc_law : FnScope ["script", "hand", "turn", "sectors", "pool", "state", "steps", "plan", "short", "due", "ahead", "step", "lot", "told", "odd", "thing", "k", "place"] ["script"] (defScope (topS 39)) := ⟨rfl, rfl, rfl, by decide +kernel, rfl, by decide +kernel, by decide +kernel⟩
theorem ok_law {f : Addr} {fd : FuncData} (F : Fun K "law" "law" (topS 39) f fd) (T : Txt K mg) (c__law_hand : Has P w K mg base "_law_hand" 1 ["script"] (spL K mg m__law_hand)) (c__law_pool : Has P w K mg base "_law_pool" 3 ["hand"] (spL K mg m__law_pool)) (c__law_steps : Has P w K mg base "_law_steps" 3 ["hand", "pool", "sectors", "many"] (spM K mg m__law_steps)) (k_Plan : MakOk P w K mg base "Plan" 6 ["self", "state", "steps"] (spM K mg m_Plan___init__)) (c__law_bare : Has P w K mg base "_law_bare" 1 ["steps"] (spM K mg m__law_bare)) (c_with_barriers : Has P w K mg base "with_barriers" 5 ["plan", "lot"] (spM K mg m_with_barriers)) (c__law_draw : Has P w K mg base "_law_draw" 1 ["hand", "many"] (spM K mg m__law_draw)) (c__law_long_right : Has P w K mg base "_law_long_right" 8 ["hand"] (spM K mg m__law_long_right)) (c_RawPlan___eq__ : MthOk P w K mg base "RawPlan" "__eq__" 2 ["self", "other"] (spM K mg m_Plan___eq__)) (c_places : Has P w K mg base "places" 2 ["plan"] (spM K mg m_places)) (c__law_told : Has P w K mg base "_law_told" 6 ["plan", "lot"] (spM K mg m__law_told)) (c__law_any : Has P w K mg base "_law_any" 2 ["hand", "things"] (spM K mg m__law_any)) (c_bare : Has P w K mg base "bare" 4 ["plan"] (spM K mg m_bare)) (c_Plan_steps : MthOk P w K mg base "Plan" "steps" 1 ["self"] (spM K mg m_Plan_steps)) (c_RawPlan_steps : MthOk P w K mg base "RawPlan" "steps" 1 ["self"] (spM K mg m_Plan_steps)) (c__law_with : Has P w K mg base "_law_with" 1 ["short", "lot"] (spM K mg m__law_with)) (c_Plan_state : MthOk P w K mg base "Plan" "state" 1 ["self"] (spM K mg m_Plan_state)) (c_RawPlan_state : MthOk P w K mg base "RawPlan" "state" 1 ["self"] (spM K mg m_Plan_state)) : FnOk P w K mg base (L2.CX P w) 9 f fd ["script"] (spM K mg m_law) :=
  fn_ok F sc_law b_law fun cdv A outer s H E hr =>
    (s_seq (s_set 1 (e_new (f_callH c__law_hand hr (takes_of rfl rfl rfl rfl) (a_cons (e_var 0) a_nil))) sc_law.nd) (s_seq (s_if (w_and (t_cmp (op_eqD (hu64 hr)) fol_eq (e_callH c__law_draw hr (takes_of rfl rfl rfl rfl) (a_cons (e_var 1) (a_cons e_int a_nil))) e_int) (w_one .And (t_not (t_tru (e_callH c__law_long_right hr (takes_of rfl rfl rfl rfl) (a_cons (e_var 1) a_nil)))))).pt (s_seq (s_ret e_bl) s_nil) s_nil) (s_seq (s_for (p := (.nm 2)) (passes_of rfl) (i_range1 T.b_range (a_cons e_int a_nil)) (pg_nmP (i := 2) sc_law.nd rfl) (s_seq (s_set 3 (e_bin op_add3 fol_add e_int (e_callH c__law_draw hr (takes_of rfl rfl rfl rfl) (a_cons (e_var 1) (a_cons e_int a_nil)))) sc_law.nd) (s_seq (s_set 4 (e_L (f_callH c__law_pool hr (takes_of rfl rfl rfl rfl) (a_cons (e_var 1) a_nil))) sc_law.nd) (s_seq (s_set 5 (e_tuple T.b_tuple (a_cons (e_L (f_lc (own := [("k", 16)]) (.nm 16) sc_law.nd (i_range1 T.b_range (a_cons (e_var 3) a_nil)) (blkOk_by (by rfl)) (fun _ _ _ _ _ => (pg_nmP (i := 16) sc_law.nd rfl)) (fun _ _ _ _ _ => p_yes) (fun _ _ _ _ _ => (e_callH c__law_any hr takes0 (a_cons (e_var 1) (a_cons (e_var 4) a_nil)))) (by decide))) a_nil)) sc_law.nd) (s_seq (s_set 6 (e_callH c__law_steps hr (takes_of rfl rfl rfl rfl) (a_cons (e_var 1) (a_cons (e_var 4) (a_cons (e_var 3) (a_cons (e_callH c__law_draw hr (takes_of rfl rfl rfl rfl) (a_cons (e_var 1) (a_cons e_int a_nil))) a_nil))))) sc_law.nd) (s_seq (s_set 7 (e_make k_Plan hr (takes_of rfl rfl rfl rfl) (a_cons (e_var 5) (a_cons (e_var 6) a_nil))) sc_law.nd) (s_seq (s_set 8 (e_callH c__law_bare hr (takes_of rfl rfl rfl rfl) (a_cons (e_var 6) a_nil)) sc_law.nd) (s_seq (s_if (w_or (t_cmp (op_neI hr) (fol_neI (tb_cons c_RawPlan___eq__ tb_nil) (nes_cons T.ne_RawPlan_Plan (nes_cons T.ne_RawPlan_RawPlan nes_nil))) (e_callH c_bare hr (takes_of rfl rfl rfl rfl) (a_cons (e_var 7) a_nil)) (e_make k_Plan hr (takes_of rfl rfl rfl rfl) (a_cons (e_var 5) (a_cons (e_var 8) a_nil)))) (w_or (t_cmp (op_neI hr) (fol_neI (tb_cons c_RawPlan___eq__ tb_nil) (nes_cons T.ne_RawPlan_Plan (nes_cons T.ne_RawPlan_RawPlan nes_nil))) (e_callH c_bare hr (takes_of rfl rfl rfl rfl) (a_cons (e_callH c_bare hr (takes_of rfl rfl rfl rfl) (a_cons (e_var 7) a_nil)) a_nil)) (e_callH c_bare hr (takes_of rfl rfl rfl rfl) (a_cons (e_var 7) a_nil))) (w_one .Or (t_cmp (op_neD (hu64 hr)) fol_ne (e_callH c_places hr (takes_of rfl rfl rfl rfl) (a_cons (e_callH c_bare hr (takes_of rfl rfl rfl rfl) (a_cons (e_var 7) a_nil)) a_nil)) (e_tup a_nil))))).pt (s_seq (s_ret e_bl) s_nil) s_nil) (s_seq (s_set 9 (e_new (f_lst a_nil)) sc_law.nd) (s_seq (s_set 10 e_int sc_law.nd) (s_seq (s_for (p := (.nm 11)) (passes_of rfl) (i_seq (e_var 6)) (pg_nmP (i := 11) sc_law.nd rfl) (s_seq (s_if (w_and (t_cmp (op_eqD (hu64 hr)) fol_eq (e_ix (e_var 11) e_int) e_str) (w_one .And (t_cmp (op_notInA (hu65 hr)) fol_notIn (e_var 10) (e_var 9)))).pt (s_seq (s_expr (e_app (e_var 9) (a_cons (e_var 10) a_nil))) s_nil) s_nil) (s_seq (s_set 10 (e_bin op_add3 fol_add (e_var 10) (e_int1 T.b_int (a_cons (e_cmp (op_neD (hu64 hr)) fol_ne (e_ix (e_var 11) e_int) e_str) a_nil))) sc_law.nd) s_nil))) (s_seq (s_if (t_cmp (op_neD (hu64 hr)) fol_ne (e_callH c_places hr (takes_of rfl rfl rfl rfl) (a_cons (e_var 7) a_nil)) (e_tuple T.b_tuple (a_cons (e_var 9) a_nil))) (s_seq (s_ret e_bl) s_nil) s_nil) (s_seq (s_set 12 (e_tuple T.b_tuple (a_cons (e_L (f_lc (own := [("place", 17)]) (.nm 17) sc_law.nd (i_range1 T.b_range (a_cons (e_bin op_add3 fol_add (e_len T.b_len (a_cons (e_var 8) a_nil)) e_int) a_nil)) (blkOk_by (by rfl)) (fun _ _ _ _ _ => (pg_nmP (i := 17) sc_law.nd rfl)) (fun _ _ _ _ _ => (pts_one (t_cmp (op_eqD (hu64 hr)) fol_eq (e_callH c__law_draw hr takes0 (a_cons (e_var 1) (a_cons e_int a_nil))) e_int))) (fun _ _ _ _ _ => (e_var 17)) (by decide))) a_nil)) sc_law.nd) (s_seq (s_set 13 (e_callH c_with_barriers hr (takes_of rfl rfl rfl rfl) (a_cons (e_var 7) (a_cons (e_var 12) a_nil))) sc_law.nd) (s_seq (s_if (w_or (t_cmp (op_neD (hu64 hr)) fol_ne (e_meth0 (m := "steps") (tb_cons c_Plan_steps (tb_cons c_RawPlan_steps tb_nil)) hr (takes_of rfl rfl rfl rfl) (e_var 13)) (e_callH c__law_with hr (takes_of rfl rfl rfl rfl) (a_cons (e_var 8) (a_cons (e_var 12) a_nil)))) (w_or (t_cmp (op_neD (hu64 hr)) fol_ne (e_meth0 (m := "state") (tb_cons c_Plan_state (tb_cons c_RawPlan_state tb_nil)) hr (takes_of rfl rfl rfl rfl) (e_var 13)) (e_var 5)) (w_one .Or (t_cmp (op_neD (hu64 hr)) fol_ne (e_callH c_places hr (takes_of rfl rfl rfl rfl) (a_cons (e_var 13) a_nil)) (e_var 12))))).pt (s_seq (s_ret e_bl) s_nil) s_nil) (s_seq (s_if (w_or (t_cmp (op_neI hr) (fol_neI (tb_cons c_RawPlan___eq__ tb_nil) (nes_cons T.ne_RawPlan_Plan (nes_cons T.ne_RawPlan_RawPlan nes_nil))) (e_callH c_bare hr (takes_of rfl rfl rfl rfl) (a_cons (e_var 13) a_nil)) (e_callH c_bare hr (takes_of rfl rfl rfl rfl) (a_cons (e_var 7) a_nil))) (w_one .Or (t_cmp (op_cGt (hu65 hr)) fol_cGt (e_len T.b_len (a_cons (e_meth0 (m := "steps") (tb_cons c_Plan_steps (tb_cons c_RawPlan_steps tb_nil)) hr (takes_of rfl rfl rfl rfl) (e_callH c_with_barriers hr (takes_of rfl rfl rfl rfl) (a_cons (e_var 7) (a_cons (e_tuple T.b_tuple (a_cons (e_var 9) a_nil)) a_nil)))) a_nil)) (e_len T.b_len (a_cons (e_var 6) a_nil))))).pt (s_seq (s_ret e_bl) s_nil) s_nil) (s_seq (s_set 14 (e_L (f_lst (a_cons (e_L (f_list T.b_list (a_cons (e_var 12) a_nil))) (a_cons (e_bin op_add3 fol_add (e_var 12) (e_var 12)) (a_cons (e_bin op_add3 fol_add (e_var 12) (e_tup (a_cons (e_bin op_add3 fol_add (e_len T.b_len (a_cons (e_var 8) a_nil)) e_int) a_nil))) (a_cons (e_tup (a_cons (e_un un_neg fol_neg e_int) a_nil)) (a_cons (e_tup (a_cons e_bl a_nil)) (a_cons e_non (a_cons e_str (a_cons (e_tup (a_cons e_str a_nil)) (a_cons (e_tup (a_cons e_int (a_cons e_int a_nil))) (a_cons e_dnew a_nil)))))))))))) sc_law.nd) (s_seq (s_set 15 (e_ix (e_var 14) (e_callH c__law_draw hr (takes_of rfl rfl rfl rfl) (a_cons (e_var 1) (a_cons e_int a_nil)))) sc_law.nd) (s_seq (s_if (w_and (t_cmp (op_eqE (hu64 hr)) fol_eqE (e_var 15) (e_tup a_nil)) (w_one .And (t_tru (e_isi .tup T.b_isinstance T.b_tuple (e_var 15))))).pt (s_seq (s_set 15 (e_tup (a_cons e_int (a_cons e_int a_nil))) sc_law.nd) s_nil) s_nil) (s_seq (s_if (t_cmp (op_neD (hu64 hr)) fol_ne (e_callH c__law_told hr (takes_of rfl rfl rfl rfl) (a_cons (e_var 7) (a_cons (e_var 15) a_nil))) e_str) (s_seq (s_ret e_bl) s_nil) s_nil) s_nil)))))))))))))))))))) (s_seq (s_ret e_bl) s_nil))))
end
end My
namespace My
open PySem PySem.Spec PyProof.Rows L2 AB
theorem us_0 {us : List Value} (h : us.length = 0) : us = [] := match us, h with | [], _ => rfl
theorem us_1 {us : List Value} (h : us.length = 1) : ∃ a0, us = [a0] := match us, h with | [a0], _ => ⟨a0, rfl⟩
theorem us_2 {us : List Value} (h : us.length = 2) : ∃ a0 a1, us = [a0, a1] := match us, h with | [a0, a1], _ => ⟨a0, a1, rfl⟩
theorem us_3 {us : List Value} (h : us.length = 3) : ∃ a0 a1 a2, us = [a0, a1, a2] := match us, h with | [a0, a1, a2], _ => ⟨a0, a1, a2, rfl⟩
theorem us_4 {us : List Value} (h : us.length = 4) : ∃ a0 a1 a2 a3, us = [a0, a1, a2, a3] := match us, h with | [a0, a1, a2, a3], _ => ⟨a0, a1, a2, a3, rfl⟩
theorem us_5 {us : List Value} (h : us.length = 5) : ∃ a0 a1 a2 a3 a4, us = [a0, a1, a2, a3, a4] := match us, h with | [a0, a1, a2, a3, a4], _ => ⟨a0, a1, a2, a3, a4, rfl⟩
theorem us_6 {us : List Value} (h : us.length = 6) : ∃ a0 a1 a2 a3 a4 a5, us = [a0, a1, a2, a3, a4, a5] := match us, h with | [a0, a1, a2, a3, a4, a5], _ => ⟨a0, a1, a2, a3, a4, a5, rfl⟩
theorem us_7 {us : List Value} (h : us.length = 7) : ∃ a0 a1 a2 a3 a4 a5 a6, us = [a0, a1, a2, a3, a4, a5, a6] := match us, h with | [a0, a1, a2, a3, a4, a5, a6], _ => ⟨a0, a1, a2, a3, a4, a5, a6, rfl⟩
theorem us_8 {us : List Value} (h : us.length = 8) : ∃ a0 a1 a2 a3 a4 a5 a6 a7, us = [a0, a1, a2, a3, a4, a5, a6, a7] := match us, h with | [a0, a1, a2, a3, a4, a5, a6, a7], _ => ⟨a0, a1, a2, a3, a4, a5, a6, a7, rfl⟩
theorem all_mk {l : PySem.W.OpenLaw} {w : World} {K : PySem.W.Frag} {h : Heap} {mg : Str → Option Value} {fa : Addr} (X : K.In h) (G : h.Ns mainGlobals mg) (hfa : mg "law" = some (.ref fa))
    (ht : ∀ ns : List Int, ns.length ≤ 63 → ∃ h, m_law [.rol (ns.map D.int)] [] = .ok (.bl true) h)
    {f0 : Addr} {od0 an0 : Option Addr} {sl0 : Array (Option Value)} {oc0 kV0 dc0 pm0 cd0 ct0 : Value}
    {f1 : Addr} {od1 an1 : Option Addr} {sl1 : Array (Option Value)} {oc1 kV1 dc1 pm1 cd1 ct1 : Value}
    {f2 : Addr} {od2 an2 : Option Addr} {sl2 : Array (Option Value)} {oc2 kV2 dc2 pm2 cd2 ct2 : Value}
    {f3 : Addr} {od3 an3 : Option Addr} {sl3 : Array (Option Value)} {oc3 kV3 dc3 pm3 cd3 ct3 : Value}
    {f4 : Addr} {od4 an4 : Option Addr} {sl4 : Array (Option Value)} {oc4 kV4 dc4 pm4 cd4 ct4 : Value}
    {f5 : Addr} {od5 an5 : Option Addr} {sl5 : Array (Option Value)} {oc5 kV5 dc5 pm5 cd5 ct5 : Value}
    {f6 : Addr} {od6 an6 : Option Addr} {sl6 : Array (Option Value)} {oc6 kV6 dc6 pm6 cd6 ct6 : Value}
    {f7 : Addr} {od7 an7 : Option Addr} {sl7 : Array (Option Value)} {oc7 kV7 dc7 pm7 cd7 ct7 : Value}
    {f8 : Addr} {od8 an8 : Option Addr} {sl8 : Array (Option Value)} {oc8 kV8 dc8 pm8 cd8 ct8 : Value}
    {f9 : Addr} {od9 an9 : Option Addr} {sl9 : Array (Option Value)} {oc9 kV9 dc9 pm9 cd9 ct9 : Value}
    {f10 : Addr} {od10 an10 : Option Addr} {sl10 : Array (Option Value)} {oc10 kV10 dc10 pm10 cd10 ct10 : Value}
    {f11 : Addr} {od11 an11 : Option Addr} {sl11 : Array (Option Value)} {oc11 kV11 dc11 pm11 cd11 ct11 : Value}
    {f12 : Addr} {od12 an12 : Option Addr} {sl12 : Array (Option Value)} {oc12 kV12 dc12 pm12 cd12 ct12 : Value}
    {f13 : Addr} {od13 an13 : Option Addr} {sl13 : Array (Option Value)} {oc13 kV13 dc13 pm13 cd13 ct13 : Value}
    {f14 : Addr} {od14 an14 : Option Addr} {sl14 : Array (Option Value)} {oc14 kV14 dc14 pm14 cd14 ct14 : Value}
    {f15 : Addr} {od15 an15 : Option Addr} {sl15 : Array (Option Value)} {oc15 kV15 dc15 pm15 cd15 ct15 : Value}
    {f16 : Addr} {od16 an16 : Option Addr} {sl16 : Array (Option Value)} {oc16 kV16 dc16 pm16 cd16 ct16 : Value}
    {f17 : Addr} {od17 an17 : Option Addr} {sl17 : Array (Option Value)} {oc17 kV17 dc17 pm17 cd17 ct17 : Value}
    {f18 : Addr} {od18 an18 : Option Addr} {sl18 : Array (Option Value)} {oc18 kV18 dc18 pm18 cd18 ct18 : Value}
    {f19 : Addr} {od19 an19 : Option Addr} {sl19 : Array (Option Value)} {oc19 kV19 dc19 pm19 cd19 ct19 : Value}
    {f20 : Addr} {od20 an20 : Option Addr} {sl20 : Array (Option Value)} {oc20 kV20 dc20 pm20 cd20 ct20 : Value}
    {f21 : Addr} {od21 an21 : Option Addr} {sl21 : Array (Option Value)} {oc21 kV21 dc21 pm21 cd21 ct21 : Value}
    {f22 : Addr} {od22 an22 : Option Addr} {sl22 : Array (Option Value)} {oc22 kV22 dc22 pm22 cd22 ct22 : Value}
    {f23 : Addr} {od23 an23 : Option Addr} {sl23 : Array (Option Value)} {oc23 kV23 dc23 pm23 cd23 ct23 : Value}
    {f24 : Addr} {od24 an24 : Option Addr} {sl24 : Array (Option Value)} {oc24 kV24 dc24 pm24 cd24 ct24 : Value}
    {f25 : Addr} {od25 an25 : Option Addr} {sl25 : Array (Option Value)} {oc25 kV25 dc25 pm25 cd25 ct25 : Value}
    {f26 : Addr} {od26 an26 : Option Addr} {sl26 : Array (Option Value)} {oc26 kV26 dc26 pm26 cd26 ct26 : Value}
    {f27 : Addr} {od27 an27 : Option Addr} {sl27 : Array (Option Value)} {oc27 kV27 dc27 pm27 cd27 ct27 : Value}
    {f28 : Addr} {od28 an28 : Option Addr} {sl28 : Array (Option Value)} {oc28 kV28 dc28 pm28 cd28 ct28 : Value}
    {f29 : Addr} {od29 an29 : Option Addr} {sl29 : Array (Option Value)} {oc29 kV29 dc29 pm29 cd29 ct29 : Value}
    {f30 : Addr} {od30 an30 : Option Addr} {sl30 : Array (Option Value)} {oc30 kV30 dc30 pm30 cd30 ct30 : Value}
    {f31 : Addr} {od31 an31 : Option Addr} {sl31 : Array (Option Value)} {oc31 kV31 dc31 pm31 cd31 ct31 : Value}
    {t0 : Tok}
    {t1 : Tok}
    {t2 : Tok}
    {t3 : Tok}
    {C0 : Addr}
    {E0 : Addr} (eg0 : PySem.W.nsIn K mainGlobals "NoPlaces" = some (some (.ref E0)))
    (ea0a : PySem.W.subIn K (.ref E0) (.type "BaseException") = some true) (ea0b : PySem.W.hasDictIn K E0 = true) (ea0c : PySem.W.typeIn K (.ref E0) = some (.type "type"))
    (es0 : PySem.W.subIn K (.ref E0) (.ref E0) = some true)
    (cs1 : PySem.W.specialIn K (.builtin "object.__class__") "__get__" = some (some (.builtin "getset_descriptor.__get__"))) (cs2 : PySem.W.takesIn K (.builtin "object.__class__") = some true)
    {D0 : Addr}
    {D1 : Addr}
    (oa0 : PySem.W.nsIn K mainGlobals "Plan" = some (some (.ref D0))) (pg0 : PySem.W.plainGet K D0 Str.empty = true) (hd0 : PySem.W.hasDictIn K D0 = true) (po0 : PySem.W.plainOver K D0 = true) (sa0 : PySem.W.findIn K (.ref D0) "__setattr__" = some (some (.builtin "object.__setattr__")))
    (mk0 : PySem.W.makesIn K D0 = true) (kc0 : PySem.W.keepIn K (.ref D0) = true)
    (oa1 : PySem.W.nsIn K mainGlobals "RawPlan" = some (some (.ref D1))) (pg1 : PySem.W.plainGet K D1 Str.empty = true) (hd1 : PySem.W.hasDictIn K D1 = true) (po1 : PySem.W.plainOver K D1 = true) (sa1 : PySem.W.findIn K (.ref D1) "__setattr__" = some (some (.builtin "object.__setattr__")))
    (mk1 : PySem.W.makesIn K D1 = true) (kc1 : PySem.W.keepIn K (.ref D1) = true)
    (tc0 : PySem.W.findIn K (.ref D0) "__class__" = some (some (.builtin "object.__class__"))) (to0 : PySem.W.mroIn K D0 (.type "object") = some true)
    (tc1 : PySem.W.findIn K (.ref D1) "__class__" = some (some (.builtin "object.__class__"))) (to1 : PySem.W.mroIn K D1 (.type "object") = some true)
    (nm0 : PySem.W.findIn K (.ref D1) "__ne__" = some (some (.builtin "object.__ne__"))) (no0 : PySem.W.subIn K (.ref D1) (.type "object") = some true)
    (nn0 : PySem.W.notFirst K D1 (.ref D0) = true)
    (nn1 : PySem.W.notFirst K D1 (.ref D1) = true)
    (ot0 : PySem.W.typeIn K (.ref D0) = some (.type "type"))
    (os0 : PySem.W.subIn K (.ref D0) (.ref D0) = some true)
    (os1 : PySem.W.subIn K (.ref D1) (.ref D0) = some true)
    (nf0 : PySem.W.findIn K (.ref D0) "kept_state" = some none)
    (nf1 : PySem.W.findIn K (.ref D0) "kept_steps" = some none)
    (nf2 : PySem.W.findIn K (.ref D1) "kept_state" = some none)
    (nf3 : PySem.W.findIn K (.ref D1) "kept_steps" = some none)
    (a0 : PySem.W.nsIn K mainGlobals "_law_hand" = some (some (.ref f0)))
    (l0 : K.lookup f0 = some ⟨oc0, od0, .func (PySem.W.fnOf "_law_hand" "_law_hand" (defArgs (topS 29)) (defBody (topS 29)) (defScope (topS 29)) .none kV0 dc0 pm0 an0 cd0 ct0), sl0⟩) (c0 : PySem.W.codeIn K cd0 "_law_hand" = true) (k0 : PySem.W.keepIn K (.ref f0) = true)
    (a1 : PySem.W.nsIn K mainGlobals "_law_draw" = some (some (.ref f1)))
    (l1 : K.lookup f1 = some ⟨oc1, od1, .func (PySem.W.fnOf "_law_draw" "_law_draw" (defArgs (topS 30)) (defBody (topS 30)) (defScope (topS 30)) .none kV1 dc1 pm1 an1 cd1 ct1), sl1⟩) (c1 : PySem.W.codeIn K cd1 "_law_draw" = true) (k1 : PySem.W.keepIn K (.ref f1) = true)
    (m2 : PySem.W.findIn K (.ref D1) "keep" = some (some (.ref f2)))
    (m15 : PySem.W.findIn K (.ref D0) "keep" = some (some (.ref f2)))
    (l2 : K.lookup f2 = some ⟨oc2, od2, .func (PySem.W.fnOf "keep" "Plan.keep" (defArgs (inClass (topS 19) 1)) (defBody (inClass (topS 19) 1)) (defScope (inClass (topS 19) 1)) .none kV2 dc2 pm2 an2 cd2 ct2), sl2⟩) (c2 : PySem.W.codeIn K cd2 "Plan.keep" = true) (k2 : PySem.W.keepIn K (.ref f2) = true)
    (i2 : PySem.W.isFn K (.ref f2) = true)
    (a3 : PySem.W.nsIn K mainGlobals "is_integer" = some (some (.ref f3)))
    (l3 : K.lookup f3 = some ⟨oc3, od3, .func (PySem.W.fnOf "is_integer" "is_integer" (defArgs (topS 8)) (defBody (topS 8)) (defScope (topS 8)) .none kV3 dc3 pm3 an3 cd3 ct3), sl3⟩) (c3 : PySem.W.codeIn K cd3 "is_integer" = true) (k3 : PySem.W.keepIn K (.ref f3) = true)
    (a4 : PySem.W.nsIn K mainGlobals "is_deed_step" = some (some (.ref f4)))
    (l4 : K.lookup f4 = some ⟨oc4, od4, .func (PySem.W.fnOf "is_deed_step" "is_deed_step" (defArgs (topS 18)) (defBody (topS 18)) (defScope (topS 18)) .none kV4 dc4 pm4 an4 cd4 ct4), sl4⟩) (c4 : PySem.W.codeIn K cd4 "is_deed_step" = true) (k4 : PySem.W.keepIn K (.ref f4) = true)
    (a5 : PySem.W.nsIn K mainGlobals "_law_bare" = some (some (.ref f5)))
    (l5 : K.lookup f5 = some ⟨oc5, od5, .func (PySem.W.fnOf "_law_bare" "_law_bare" (defArgs (topS 35)) (defBody (topS 35)) (defScope (topS 35)) .none kV5 dc5 pm5 an5 cd5 ct5), sl5⟩) (c5 : PySem.W.codeIn K cd5 "_law_bare" = true) (k5 : PySem.W.keepIn K (.ref f5) = true)
    (a6 : PySem.W.nsIn K mainGlobals "bare_steps" = some (some (.ref f6)))
    (l6 : K.lookup f6 = some ⟨oc6, od6, .func (PySem.W.fnOf "bare_steps" "bare_steps" (defArgs (topS 22)) (defBody (topS 22)) (defScope (topS 22)) .none kV6 dc6 pm6 an6 cd6 ct6), sl6⟩) (c6 : PySem.W.codeIn K cd6 "bare_steps" = true) (k6 : PySem.W.keepIn K (.ref f6) = true)
    (m3 : PySem.W.findIn K (.ref D0) "parts" = some (some (.ref f7)))
    (m4 : PySem.W.findIn K (.ref D1) "parts" = some (some (.ref f7)))
    (l7 : K.lookup f7 = some ⟨oc7, od7, .func (PySem.W.fnOf "parts" "Plan.parts" (defArgs (inClass (topS 19) 4)) (defBody (inClass (topS 19) 4)) (defScope (inClass (topS 19) 4)) .none kV7 dc7 pm7 an7 cd7 ct7), sl7⟩) (c7 : PySem.W.codeIn K cd7 "Plan.parts" = true) (k7 : PySem.W.keepIn K (.ref f7) = true)
    (i7 : PySem.W.isFn K (.ref f7) = true)
    (m19 : PySem.W.findIn K (.ref D0) "steps" = some (some (.ref f8)))
    (m20 : PySem.W.findIn K (.ref D1) "steps" = some (some (.ref f8)))
    (l8 : K.lookup f8 = some ⟨oc8, od8, .func (PySem.W.fnOf "steps" "Plan.steps" (defArgs (inClass (topS 19) 3)) (defBody (inClass (topS 19) 3)) (defScope (inClass (topS 19) 3)) .none kV8 dc8 pm8 an8 cd8 ct8), sl8⟩) (c8 : PySem.W.codeIn K cd8 "Plan.steps" = true) (k8 : PySem.W.keepIn K (.ref f8) = true)
    (i8 : PySem.W.isFn K (.ref f8) = true)
    (a9 : PySem.W.nsIn K mainGlobals "_law_with" = some (some (.ref f9)))
    (l9 : K.lookup f9 = some ⟨oc9, od9, .func (PySem.W.fnOf "_law_with" "_law_with" (defArgs (topS 36)) (defBody (topS 36)) (defScope (topS 36)) .none kV9 dc9 pm9 an9 cd9 ct9), sl9⟩) (c9 : PySem.W.codeIn K cd9 "_law_with" = true) (k9 : PySem.W.keepIn K (.ref f9) = true)
    (a10 : PySem.W.nsIn K mainGlobals "places_of" = some (some (.ref f10)))
    (l10 : K.lookup f10 = some ⟨oc10, od10, .func (PySem.W.fnOf "places_of" "places_of" (defArgs (topS 24)) (defBody (topS 24)) (defScope (topS 24)) .none kV10 dc10 pm10 an10 cd10 ct10), sl10⟩) (c10 : PySem.W.codeIn K cd10 "places_of" = true) (k10 : PySem.W.keepIn K (.ref f10) = true)
    (m33 : PySem.W.findIn K (.ref D0) "state" = some (some (.ref f11)))
    (m34 : PySem.W.findIn K (.ref D1) "state" = some (some (.ref f11)))
    (l11 : K.lookup f11 = some ⟨oc11, od11, .func (PySem.W.fnOf "state" "Plan.state" (defArgs (inClass (topS 19) 2)) (defBody (inClass (topS 19) 2)) (defScope (inClass (topS 19) 2)) .none kV11 dc11 pm11 an11 cd11 ct11), sl11⟩) (c11 : PySem.W.codeIn K cd11 "Plan.state" = true) (k11 : PySem.W.keepIn K (.ref f11) = true)
    (i11 : PySem.W.isFn K (.ref f11) = true)
    (a12 : PySem.W.nsIn K mainGlobals "_law_value" = some (some (.ref f12)))
    (l12 : K.lookup f12 = some ⟨oc12, od12, .func (PySem.W.fnOf "_law_value" "_law_value" (defArgs (topS 31)) (defBody (topS 31)) (defScope (topS 31)) .none kV12 dc12 pm12 an12 cd12 ct12), sl12⟩) (c12 : PySem.W.codeIn K cd12 "_law_value" = true) (k12 : PySem.W.keepIn K (.ref f12) = true)
    (a13 : PySem.W.nsIn K mainGlobals "_law_any" = some (some (.ref f13)))
    (l13 : K.lookup f13 = some ⟨oc13, od13, .func (PySem.W.fnOf "_law_any" "_law_any" (defArgs (topS 33)) (defBody (topS 33)) (defScope (topS 33)) .none kV13 dc13 pm13 an13 cd13 ct13), sl13⟩) (c13 : PySem.W.codeIn K cd13 "_law_any" = true) (k13 : PySem.W.keepIn K (.ref f13) = true)
    (a14 : PySem.W.nsIn K mainGlobals "is_between" = some (some (.ref f14)))
    (l14 : K.lookup f14 = some ⟨oc14, od14, .func (PySem.W.fnOf "is_between" "is_between" (defArgs (topS 9)) (defBody (topS 9)) (defScope (topS 9)) .none kV14 dc14 pm14 an14 cd14 ct14), sl14⟩) (c14 : PySem.W.codeIn K cd14 "is_between" = true) (k14 : PySem.W.keepIn K (.ref f14) = true)
    (m12 : PySem.W.findIn K (.ref D1) "__init__" = some (some (.ref f15)))
    (l15 : K.lookup f15 = some ⟨oc15, od15, .func (PySem.W.fnOf "__init__" "RawPlan.__init__" (defArgs (inClass (topS 20) 0)) (defBody (inClass (topS 20) 0)) (defScope (inClass (topS 20) 0)) .none kV15 dc15 pm15 an15 cd15 ct15), sl15⟩) (c15 : PySem.W.codeIn K cd15 "RawPlan.__init__" = true) (k15 : PySem.W.keepIn K (.ref f15) = true)
    (i15 : PySem.W.isFn K (.ref f15) = true)
    (m23 : PySem.W.findIn K (.ref D1) "__eq__" = some (some (.ref f16)))
    (l16 : K.lookup f16 = some ⟨oc16, od16, .func (PySem.W.fnOf "__eq__" "Plan.__eq__" (defArgs (inClass (topS 19) 5)) (defBody (inClass (topS 19) 5)) (defScope (inClass (topS 19) 5)) .none kV16 dc16 pm16 an16 cd16 ct16), sl16⟩) (c16 : PySem.W.codeIn K cd16 "Plan.__eq__" = true) (k16 : PySem.W.keepIn K (.ref f16) = true)
    (i16 : PySem.W.isFn K (.ref f16) = true)
    (a17 : PySem.W.nsIn K mainGlobals "places" = some (some (.ref f17)))
    (l17 : K.lookup f17 = some ⟨oc17, od17, .func (PySem.W.fnOf "places" "places" (defArgs (topS 25)) (defBody (topS 25)) (defScope (topS 25)) .none kV17 dc17 pm17 an17 cd17 ct17), sl17⟩) (c17 : PySem.W.codeIn K cd17 "places" = true) (k17 : PySem.W.keepIn K (.ref f17) = true)
    (a18 : PySem.W.nsIn K mainGlobals "_law_pool" = some (some (.ref f18)))
    (l18 : K.lookup f18 = some ⟨oc18, od18, .func (PySem.W.fnOf "_law_pool" "_law_pool" (defArgs (topS 32)) (defBody (topS 32)) (defScope (topS 32)) .none kV18 dc18 pm18 an18 cd18 ct18), sl18⟩) (c18 : PySem.W.codeIn K cd18 "_law_pool" = true) (k18 : PySem.W.keepIn K (.ref f18) = true)
    (a19 : PySem.W.nsIn K mainGlobals "_law_steps" = some (some (.ref f19)))
    (l19 : K.lookup f19 = some ⟨oc19, od19, .func (PySem.W.fnOf "_law_steps" "_law_steps" (defArgs (topS 34)) (defBody (topS 34)) (defScope (topS 34)) .none kV19 dc19 pm19 an19 cd19 ct19), sl19⟩) (c19 : PySem.W.codeIn K cd19 "_law_steps" = true) (k19 : PySem.W.keepIn K (.ref f19) = true)
    (a20 : PySem.W.nsIn K mainGlobals "is_value" = some (some (.ref f20)))
    (l20 : K.lookup f20 = some ⟨oc20, od20, .func (PySem.W.fnOf "is_value" "is_value" (defArgs (topS 11)) (defBody (topS 11)) (defScope (topS 11)) .none kV20 dc20 pm20 an20 cd20 ct20), sl20⟩) (c20 : PySem.W.codeIn K cd20 "is_value" = true) (k20 : PySem.W.keepIn K (.ref f20) = true)
    (a21 : PySem.W.nsIn K mainGlobals "is_index" = some (some (.ref f21)))
    (l21 : K.lookup f21 = some ⟨oc21, od21, .func (PySem.W.fnOf "is_index" "is_index" (defArgs (topS 10)) (defBody (topS 10)) (defScope (topS 10)) .none kV21 dc21 pm21 an21 cd21 ct21), sl21⟩) (c21 : PySem.W.codeIn K cd21 "is_index" = true) (k21 : PySem.W.keepIn K (.ref f21) = true)
    (a22 : PySem.W.nsIn K mainGlobals "is_held" = some (some (.ref f22)))
    (l22 : K.lookup f22 = some ⟨oc22, od22, .func (PySem.W.fnOf "is_held" "is_held" (defArgs (topS 12)) (defBody (topS 12)) (defScope (topS 12)) .none kV22 dc22 pm22 an22 cd22 ct22), sl22⟩) (c22 : PySem.W.codeIn K cd22 "is_held" = true) (k22 : PySem.W.keepIn K (.ref f22) = true)
    (a23 : PySem.W.nsIn K mainGlobals "is_disk_step" = some (some (.ref f23)))
    (l23 : K.lookup f23 = some ⟨oc23, od23, .func (PySem.W.fnOf "is_disk_step" "is_disk_step" (defArgs (topS 15)) (defBody (topS 15)) (defScope (topS 15)) .none kV23 dc23 pm23 an23 cd23 ct23), sl23⟩) (c23 : PySem.W.codeIn K cd23 "is_disk_step" = true) (k23 : PySem.W.keepIn K (.ref f23) = true)
    (a24 : PySem.W.nsIn K mainGlobals "check_places" = some (some (.ref f24)))
    (l24 : K.lookup f24 = some ⟨oc24, od24, .func (PySem.W.fnOf "check_places" "check_places" (defArgs (topS 26)) (defBody (topS 26)) (defScope (topS 26)) .none kV24 dc24 pm24 an24 cd24 ct24), sl24⟩) (c24 : PySem.W.codeIn K cd24 "check_places" = true) (k24 : PySem.W.keepIn K (.ref f24) = true)
    (a25 : PySem.W.nsIn K mainGlobals "bare" = some (some (.ref f25)))
    (l25 : K.lookup f25 = some ⟨oc25, od25, .func (PySem.W.fnOf "bare" "bare" (defArgs (topS 23)) (defBody (topS 23)) (defScope (topS 23)) .none kV25 dc25 pm25 an25 cd25 ct25), sl25⟩) (c25 : PySem.W.codeIn K cd25 "bare" = true) (k25 : PySem.W.keepIn K (.ref f25) = true)
    (a26 : PySem.W.nsIn K mainGlobals "is_state" = some (some (.ref f26)))
    (l26 : K.lookup f26 = some ⟨oc26, od26, .func (PySem.W.fnOf "is_state" "is_state" (defArgs (topS 13)) (defBody (topS 13)) (defScope (topS 13)) .none kV26 dc26 pm26 an26 cd26 ct26), sl26⟩) (c26 : PySem.W.codeIn K cd26 "is_state" = true) (k26 : PySem.W.keepIn K (.ref f26) = true)
    (a27 : PySem.W.nsIn K mainGlobals "with_barriers" = some (some (.ref f27)))
    (l27 : K.lookup f27 = some ⟨oc27, od27, .func (PySem.W.fnOf "with_barriers" "with_barriers" (defArgs (topS 27)) (defBody (topS 27)) (defScope (topS 27)) .none kV27 dc27 pm27 an27 cd27 ct27), sl27⟩) (c27 : PySem.W.codeIn K cd27 "with_barriers" = true) (k27 : PySem.W.keepIn K (.ref f27) = true)
    (m22 : PySem.W.findIn K (.ref D0) "__init__" = some (some (.ref f28)))
    (l28 : K.lookup f28 = some ⟨oc28, od28, .func (PySem.W.fnOf "__init__" "Plan.__init__" (defArgs (inClass (topS 19) 0)) (defBody (inClass (topS 19) 0)) (defScope (inClass (topS 19) 0)) .none kV28 dc28 pm28 an28 cd28 ct28), sl28⟩) (c28 : PySem.W.codeIn K cd28 "Plan.__init__" = true) (k28 : PySem.W.keepIn K (.ref f28) = true)
    (i28 : PySem.W.isFn K (.ref f28) = true)
    (a29 : PySem.W.nsIn K mainGlobals "_law_told" = some (some (.ref f29)))
    (l29 : K.lookup f29 = some ⟨oc29, od29, .func (PySem.W.fnOf "_law_told" "_law_told" (defArgs (topS 37)) (defBody (topS 37)) (defScope (topS 37)) .none kV29 dc29 pm29 an29 cd29 ct29), sl29⟩) (c29 : PySem.W.codeIn K cd29 "_law_told" = true) (k29 : PySem.W.keepIn K (.ref f29) = true)
    (a30 : PySem.W.nsIn K mainGlobals "_law_long_right" = some (some (.ref f30)))
    (l30 : K.lookup f30 = some ⟨oc30, od30, .func (PySem.W.fnOf "_law_long_right" "_law_long_right" (defArgs (topS 38)) (defBody (topS 38)) (defScope (topS 38)) .none kV30 dc30 pm30 an30 cd30 ct30), sl30⟩) (c30 : PySem.W.codeIn K cd30 "_law_long_right" = true) (k30 : PySem.W.keepIn K (.ref f30) = true)
    (a31 : PySem.W.nsIn K mainGlobals "law" = some (some (.ref f31)))
    (l31 : K.lookup f31 = some ⟨oc31, od31, .func (PySem.W.fnOf "law" "law" (defArgs (topS 39)) (defBody (topS 39)) (defScope (topS 39)) .none kV31 dc31 pm31 an31 cd31 ct31), sl31⟩) (c31 : PySem.W.codeIn K cd31 "law" = true) (k31 : PySem.W.keepIn K (.ref f31) = true)
    (z0 : PySem.W.nsIn K mainGlobals "abs" = some none)
    (z1 : PySem.W.nsIn K mainGlobals "all" = some none)
    (z2 : PySem.W.nsIn K mainGlobals "any" = some none)
    (z3 : PySem.W.nsIn K mainGlobals "bool" = some none)
    (z4 : PySem.W.nsIn K mainGlobals "enumerate" = some none)
    (z5 : PySem.W.nsIn K mainGlobals "int" = some none)
    (z6 : PySem.W.nsIn K mainGlobals "isinstance" = some none)
    (z7 : PySem.W.nsIn K mainGlobals "len" = some none)
    (z8 : PySem.W.nsIn K mainGlobals "list" = some none)
    (z9 : PySem.W.nsIn K mainGlobals "range" = some none)
    (z10 : PySem.W.nsIn K mainGlobals "sorted" = some none)
    (z11 : PySem.W.nsIn K mainGlobals "str" = some none)
    (z12 : PySem.W.nsIn K mainGlobals "tuple" = some none)
    (z13 : PySem.W.nsIn K mainGlobals "zip" = some none)
    (y0 : PySem.W.nsIn K mainGlobals "MOST_ITEM" = some (some (.int 1000000000000 t0)))
    (y1 : PySem.W.nsIn K mainGlobals "MOST_ITEMS" = some (some (.int 32 t1)))
    (y2 : PySem.W.nsIn K mainGlobals "MOST_SECTORS" = some (some (.int 64 t2)))
    (y3 : PySem.W.nsIn K mainGlobals "MOST_STEPS" = some (some (.int 200 t3)))
    (xg0 : PySem.W.nsIn K mainGlobals "NoPlaces" = some (some (.ref C0))) (xk0 : PySem.W.keepIn K (.ref C0) = true) (xe0 : PySem.W.excIn K C0 [.type "ValueError", .type "Exception", .type "BaseException", .type "object"] "ValueError.__new__" = true) (xs0 : PySem.W.subIn K (.ref C0) (.type "BaseException") = some true) (xt0 : PySem.W.typeIn K (.ref C0) = some (.type "type"))
    : ∃ fd : FuncData, (∀ (s : Shared) (v : Value), BindsTo s fd ⟨[v], []⟩ [("script", v)]) ∧ ∀ base : Heap, K.In base → base.Ns mainGlobals mg → FnOk l.prog w K mg base (L2.CX l.prog w) 9 fa fd ["script"] (spLaw K) := by
  have e := hfa.symm.trans (PySem.W.mg_of X G a31)
  cases e
  have cl0 : Cls K D0 := ⟨pg0, hd0, po0, sa0⟩
  have cl1 : Cls K D1 := ⟨pg1, hd1, po1, sa1⟩
  have T : Txt K mg := ⟨PySem.W.mg_none_of X G z0, PySem.W.mg_none_of X G z1, PySem.W.mg_none_of X G z2, PySem.W.mg_none_of X G z3, PySem.W.mg_none_of X G z4, PySem.W.mg_none_of X G z5, PySem.W.mg_none_of X G z6, PySem.W.mg_none_of X G z7, PySem.W.mg_none_of X G z8, PySem.W.mg_none_of X G z9, PySem.W.mg_none_of X G z10, PySem.W.mg_none_of X G z11, PySem.W.mg_none_of X G z12, PySem.W.mg_none_of X G z13, ⟨_, PySem.W.mg_of X G y0⟩, ⟨_, PySem.W.mg_of X G y1⟩, ⟨_, PySem.W.mg_of X G y2⟩, ⟨_, PySem.W.mg_of X G y3⟩, ⟨⟨C0, _, PySem.W.mg_of X G xg0, PySem.F.excBase_ValueError, xe0, xk0, xs0, xt0⟩⟩, ⟨_, PySem.W.mg_of X G eg0⟩, ⟨fun cl e => by rw [PySem.W.mg_of X G eg0] at e; cases e; exact ⟨⟨E0, PySem.W.mg_of X G eg0, PySem.W.exm_ref ea0a ea0b ea0c es0⟩⟩⟩, ⟨fun Ca Cb e e2 => by rw [oa1] at e; cases e; rw [oa0] at e2; cases e2; exact ⟨nn0, nm0, no0⟩⟩, ⟨fun Ca Cb e e2 => by rw [oa1] at e; cases e; rw [oa1] at e2; cases e2; exact ⟨nn1, nm0, no0⟩⟩, ⟨fun Ca e => by rw [oa0] at e; cases e; exact ⟨cl0, tc0, cs1, cs2, to0, fun D0 e2 => by rw [PySem.W.mg_of X G oa0] at e2; cases e2; exact kit_oneT hd0 ot0 os0⟩⟩, ⟨fun Ca e => by rw [oa1] at e; cases e; exact ⟨cl1, tc1, cs1, cs2, to1, fun D0 e2 => by rw [PySem.W.mg_of X G oa0] at e2; cases e2; exact kit_oneT hd0 ot0 os1⟩⟩, ⟨_, PySem.W.mg_of X G oa0⟩, fldOk oa0 cl0 nf0, fldOk oa0 cl0 nf1, fldOk oa1 cl1 nf2, fldOk oa1 cl1 nf3⟩
  have F0 := fun_mk (st := (topS 29)) l0 c0 k0
  have F1 := fun_mk (st := (topS 30)) l1 c1 k1
  have F2 := fun_mk (st := (inClass (topS 19) 1)) l2 c2 k2
  have F3 := fun_mk (st := (topS 8)) l3 c3 k3
  have F4 := fun_mk (st := (topS 18)) l4 c4 k4
  have F5 := fun_mk (st := (topS 35)) l5 c5 k5
  have F6 := fun_mk (st := (topS 22)) l6 c6 k6
  have F7 := fun_mk (st := (inClass (topS 19) 4)) l7 c7 k7
  have F8 := fun_mk (st := (inClass (topS 19) 3)) l8 c8 k8
  have F9 := fun_mk (st := (topS 36)) l9 c9 k9
  have F10 := fun_mk (st := (topS 24)) l10 c10 k10
  have F11 := fun_mk (st := (inClass (topS 19) 2)) l11 c11 k11
  have F12 := fun_mk (st := (topS 31)) l12 c12 k12
  have F13 := fun_mk (st := (topS 33)) l13 c13 k13
  have F14 := fun_mk (st := (topS 9)) l14 c14 k14
  have F15 := fun_mk (st := (inClass (topS 20) 0)) l15 c15 k15
  have F16 := fun_mk (st := (inClass (topS 19) 5)) l16 c16 k16
  have F17 := fun_mk (st := (topS 25)) l17 c17 k17
  have F18 := fun_mk (st := (topS 32)) l18 c18 k18
  have F19 := fun_mk (st := (topS 34)) l19 c19 k19
  have F20 := fun_mk (st := (topS 11)) l20 c20 k20
  have F21 := fun_mk (st := (topS 10)) l21 c21 k21
  have F22 := fun_mk (st := (topS 12)) l22 c22 k22
  have F23 := fun_mk (st := (topS 15)) l23 c23 k23
  have F24 := fun_mk (st := (topS 26)) l24 c24 k24
  have F25 := fun_mk (st := (topS 23)) l25 c25 k25
  have F26 := fun_mk (st := (topS 13)) l26 c26 k26
  have F27 := fun_mk (st := (topS 27)) l27 c27 k27
  have F28 := fun_mk (st := (inClass (topS 19) 0)) l28 c28 k28
  have F29 := fun_mk (st := (topS 37)) l29 c29 k29
  have F30 := fun_mk (st := (topS 38)) l30 c30 k30
  have F31 := fun_mk (st := (topS 39)) l31 c31 k31
  refine ⟨PySem.W.fnOf "law" "law" (defArgs (topS 39)) (defBody (topS 39)) (defScope (topS 39)) .none kV31 dc31 pm31 an31 cd31 ct31, fun s v => .of_eq rfl, fun base _ _ => ?_⟩
  have c__law_hand : Has l.prog w K mg base "_law_hand" 1 ["script"] (spL K mg m__law_hand) := ⟨⟨f0, _, PySem.W.mg_of X G a0, k0, F0.binds (ps := ["script"]) fun _ _ _ _ _ _ us hl => by obtain ⟨_, rfl⟩ := us_1 hl; rfl, ok__law_hand F0 T ⟩⟩
  have c__law_draw : Has l.prog w K mg base "_law_draw" 1 ["hand", "many"] (spM K mg m__law_draw) := ⟨⟨f1, _, PySem.W.mg_of X G a1, k1, F1.binds (ps := ["hand", "many"]) fun _ _ _ _ _ _ us hl => by obtain ⟨_, _, rfl⟩ := us_2 hl; rfl, ok__law_draw F1 T ⟩⟩
  have o_Plan_keep := ok_Plan_keep (P := l.prog) (w := w) (base := base) F2 T 
  have b_Plan_keep : Binds K _ ["self", "state", "steps"] [] := F2.binds (ps := ["self", "state", "steps"]) fun _ _ _ _ _ _ us hl => by obtain ⟨_, _, _, rfl⟩ := us_3 hl; rfl
  have c_RawPlan_keep : MthOk l.prog w K mg base "RawPlan" "keep" 1 ["self", "state", "steps"] (spM K mg m_Plan_keep) := mthOk oa1 cl1 ⟨m2, i2, k2⟩ b_Plan_keep o_Plan_keep
  have c_Plan_keep : MthOk l.prog w K mg base "Plan" "keep" 1 ["self", "state", "steps"] (spM K mg m_Plan_keep) := mthOk oa0 cl0 ⟨m15, i2, k2⟩ b_Plan_keep o_Plan_keep
  have c_is_integer : Has l.prog w K mg base "is_integer" 1 ["thing"] (spM K mg m_is_integer) := ⟨⟨f3, _, PySem.W.mg_of X G a3, k3, F3.binds (ps := ["thing"]) fun _ _ _ _ _ _ us hl => by obtain ⟨_, rfl⟩ := us_1 hl; rfl, ok_is_integer F3 T ⟩⟩
  have c_is_deed_step : Has l.prog w K mg base "is_deed_step" 1 ["thing"] (spM K mg m_is_deed_step) := ⟨⟨f4, _, PySem.W.mg_of X G a4, k4, F4.binds (ps := ["thing"]) fun _ _ _ _ _ _ us hl => by obtain ⟨_, rfl⟩ := us_1 hl; rfl, ok_is_deed_step F4 T ⟩⟩
  have c__law_bare : Has l.prog w K mg base "_law_bare" 1 ["steps"] (spM K mg m__law_bare) := ⟨⟨f5, _, PySem.W.mg_of X G a5, k5, F5.binds (ps := ["steps"]) fun _ _ _ _ _ _ us hl => by obtain ⟨_, rfl⟩ := us_1 hl; rfl, ok__law_bare F5 T ⟩⟩
  have c_bare_steps : Has l.prog w K mg base "bare_steps" 1 ["plan"] (spM K mg m_bare_steps) := ⟨⟨f6, _, PySem.W.mg_of X G a6, k6, F6.binds (ps := ["plan"]) fun _ _ _ _ _ _ us hl => by obtain ⟨_, rfl⟩ := us_1 hl; rfl, ok_bare_steps F6 T ⟩⟩
  have o_Plan_parts := ok_Plan_parts (P := l.prog) (w := w) (base := base) F7 T 
  have b_Plan_parts : Binds K _ ["self"] [] := F7.binds (ps := ["self"]) fun _ _ _ _ _ _ us hl => by obtain ⟨_, rfl⟩ := us_1 hl; rfl
  have c_Plan_parts : MthOk l.prog w K mg base "Plan" "parts" 1 ["self"] (spM K mg m_Plan_parts) := mthOk oa0 cl0 ⟨m3, i7, k7⟩ b_Plan_parts o_Plan_parts
  have c_RawPlan_parts : MthOk l.prog w K mg base "RawPlan" "parts" 1 ["self"] (spM K mg m_Plan_parts) := mthOk oa1 cl1 ⟨m4, i7, k7⟩ b_Plan_parts o_Plan_parts
  have o_Plan_steps := ok_Plan_steps (P := l.prog) (w := w) (base := base) F8 T 
  have b_Plan_steps : Binds K _ ["self"] [] := F8.binds (ps := ["self"]) fun _ _ _ _ _ _ us hl => by obtain ⟨_, rfl⟩ := us_1 hl; rfl
  have c_Plan_steps : MthOk l.prog w K mg base "Plan" "steps" 1 ["self"] (spM K mg m_Plan_steps) := mthOk oa0 cl0 ⟨m19, i8, k8⟩ b_Plan_steps o_Plan_steps
  have c_RawPlan_steps : MthOk l.prog w K mg base "RawPlan" "steps" 1 ["self"] (spM K mg m_Plan_steps) := mthOk oa1 cl1 ⟨m20, i8, k8⟩ b_Plan_steps o_Plan_steps
  have c__law_with : Has l.prog w K mg base "_law_with" 1 ["short", "lot"] (spM K mg m__law_with) := ⟨⟨f9, _, PySem.W.mg_of X G a9, k9, F9.binds (ps := ["short", "lot"]) fun _ _ _ _ _ _ us hl => by obtain ⟨_, _, rfl⟩ := us_2 hl; rfl, ok__law_with F9 T ⟩⟩
  have c_places_of : Has l.prog w K mg base "places_of" 1 ["plan"] (spM K mg m_places_of) := ⟨⟨f10, _, PySem.W.mg_of X G a10, k10, F10.binds (ps := ["plan"]) fun _ _ _ _ _ _ us hl => by obtain ⟨_, rfl⟩ := us_1 hl; rfl, ok_places_of F10 T ⟩⟩
  have o_Plan_state := ok_Plan_state (P := l.prog) (w := w) (base := base) F11 T 
  have b_Plan_state : Binds K _ ["self"] [] := F11.binds (ps := ["self"]) fun _ _ _ _ _ _ us hl => by obtain ⟨_, rfl⟩ := us_1 hl; rfl
  have c_Plan_state : MthOk l.prog w K mg base "Plan" "state" 1 ["self"] (spM K mg m_Plan_state) := mthOk oa0 cl0 ⟨m33, i11, k11⟩ b_Plan_state o_Plan_state
  have c_RawPlan_state : MthOk l.prog w K mg base "RawPlan" "state" 1 ["self"] (spM K mg m_Plan_state) := mthOk oa1 cl1 ⟨m34, i11, k11⟩ b_Plan_state o_Plan_state
  have c__law_value : Has l.prog w K mg base "_law_value" 2 ["hand"] (spM K mg m__law_value) := ⟨⟨f12, _, PySem.W.mg_of X G a12, k12, F12.binds (ps := ["hand"]) fun _ _ _ _ _ _ us hl => by obtain ⟨_, rfl⟩ := us_1 hl; rfl, ok__law_value F12 T c__law_draw⟩⟩
  have c__law_any : Has l.prog w K mg base "_law_any" 2 ["hand", "things"] (spM K mg m__law_any) := ⟨⟨f13, _, PySem.W.mg_of X G a13, k13, F13.binds (ps := ["hand", "things"]) fun _ _ _ _ _ _ us hl => by obtain ⟨_, _, rfl⟩ := us_2 hl; rfl, ok__law_any F13 T c__law_draw⟩⟩
  have c_is_between : Has l.prog w K mg base "is_between" 2 ["thing", "least", "most"] (spM K mg m_is_between) := ⟨⟨f14, _, PySem.W.mg_of X G a14, k14, F14.binds (ps := ["thing", "least", "most"]) fun _ _ _ _ _ _ us hl => by obtain ⟨_, _, _, rfl⟩ := us_3 hl; rfl, ok_is_between F14 T c_is_integer⟩⟩
  have o_RawPlan___init__ := ok_RawPlan___init__ (P := l.prog) (w := w) (base := base) F15 T c_RawPlan_keep
  have b_RawPlan___init__ : Binds K _ ["self", "state", "steps"] [] := F15.binds (ps := ["self", "state", "steps"]) fun _ _ _ _ _ _ us hl => by obtain ⟨_, _, _, rfl⟩ := us_3 hl; rfl
  have k_RawPlan : MakOk l.prog w K mg base "RawPlan" 2 ["self", "state", "steps"] (spM K mg m_RawPlan___init__) := ⟨⟨D1, f15, _, oa1, PySem.W.mg_of X G oa1, ⟨mk1, m12, i15, kc1⟩, b_RawPlan___init__, o_RawPlan___init__⟩⟩
  have o_Plan___eq__ := ok_Plan___eq__ (P := l.prog) (w := w) (base := base) F16 T c_Plan_parts c_RawPlan_parts
  have b_Plan___eq__ : Binds K _ ["self", "other"] [] := F16.binds (ps := ["self", "other"]) fun _ _ _ _ _ _ us hl => by obtain ⟨_, _, rfl⟩ := us_2 hl; rfl
  have c_RawPlan___eq__ : MthOk l.prog w K mg base "RawPlan" "__eq__" 2 ["self", "other"] (spM K mg m_Plan___eq__) := mthOk oa1 cl1 ⟨m23, i16, k16⟩ b_Plan___eq__ o_Plan___eq__
  have c_places : Has l.prog w K mg base "places" 2 ["plan"] (spM K mg m_places) := ⟨⟨f17, _, PySem.W.mg_of X G a17, k17, F17.binds (ps := ["plan"]) fun _ _ _ _ _ _ us hl => by obtain ⟨_, rfl⟩ := us_1 hl; rfl, ok_places F17 T c_places_of⟩⟩
  have c__law_pool : Has l.prog w K mg base "_law_pool" 3 ["hand"] (spL K mg m__law_pool) := ⟨⟨f18, _, PySem.W.mg_of X G a18, k18, F18.binds (ps := ["hand"]) fun _ _ _ _ _ _ us hl => by obtain ⟨_, rfl⟩ := us_1 hl; rfl, ok__law_pool F18 T c__law_value⟩⟩
  have c__law_steps : Has l.prog w K mg base "_law_steps" 3 ["hand", "pool", "sectors", "many"] (spM K mg m__law_steps) := ⟨⟨f19, _, PySem.W.mg_of X G a19, k19, F19.binds (ps := ["hand", "pool", "sectors", "many"]) fun _ _ _ _ _ _ us hl => by obtain ⟨_, _, _, _, rfl⟩ := us_4 hl; rfl, ok__law_steps F19 T c__law_draw c__law_any⟩⟩
  have c_is_value : Has l.prog w K mg base "is_value" 3 ["thing"] (spM K mg m_is_value) := ⟨⟨f20, _, PySem.W.mg_of X G a20, k20, F20.binds (ps := ["thing"]) fun _ _ _ _ _ _ us hl => by obtain ⟨_, rfl⟩ := us_1 hl; rfl, ok_is_value F20 T c_is_between⟩⟩
  have c_is_index : Has l.prog w K mg base "is_index" 3 ["thing", "many"] (spM K mg m_is_index) := ⟨⟨f21, _, PySem.W.mg_of X G a21, k21, F21.binds (ps := ["thing", "many"]) fun _ _ _ _ _ _ us hl => by obtain ⟨_, _, rfl⟩ := us_2 hl; rfl, ok_is_index F21 T c_is_between⟩⟩
  have c_is_held : Has l.prog w K mg base "is_held" 4 ["thing"] (spM K mg m_is_held) := ⟨⟨f22, _, PySem.W.mg_of X G a22, k22, F22.binds (ps := ["thing"]) fun _ _ _ _ _ _ us hl => by obtain ⟨_, rfl⟩ := us_1 hl; rfl, ok_is_held F22 T c_is_value⟩⟩
  have c_is_disk_step : Has l.prog w K mg base "is_disk_step" 4 ["thing", "sectors"] (spM K mg m_is_disk_step) := ⟨⟨f23, _, PySem.W.mg_of X G a23, k23, F23.binds (ps := ["thing", "sectors"]) fun _ _ _ _ _ _ us hl => by obtain ⟨_, _, rfl⟩ := us_2 hl; rfl, ok_is_disk_step F23 T c_is_index c_is_value⟩⟩
  have c_check_places : Has l.prog w K mg base "check_places" 4 ["plan", "thing"] (spM K mg m_check_places) := ⟨⟨f24, _, PySem.W.mg_of X G a24, k24, F24.binds (ps := ["plan", "thing"]) fun _ _ _ _ _ _ us hl => by obtain ⟨_, _, rfl⟩ := us_2 hl; rfl, ok_check_places F24 T c_bare_steps c_is_index⟩⟩
  have c_bare : Has l.prog w K mg base "bare" 4 ["plan"] (spM K mg m_bare) := ⟨⟨f25, _, PySem.W.mg_of X G a25, k25, F25.binds (ps := ["plan"]) fun _ _ _ _ _ _ us hl => by obtain ⟨_, rfl⟩ := us_1 hl; rfl, ok_bare F25 T k_RawPlan c_bare_steps⟩⟩
  have c_is_state : Has l.prog w K mg base "is_state" 5 ["thing"] (spM K mg m_is_state) := ⟨⟨f26, _, PySem.W.mg_of X G a26, k26, F26.binds (ps := ["thing"]) fun _ _ _ _ _ _ us hl => by obtain ⟨_, rfl⟩ := us_1 hl; rfl, ok_is_state F26 T c_is_held⟩⟩
  have c_with_barriers : Has l.prog w K mg base "with_barriers" 5 ["plan", "lot"] (spM K mg m_with_barriers) := ⟨⟨f27, _, PySem.W.mg_of X G a27, k27, F27.binds (ps := ["plan", "lot"]) fun _ _ _ _ _ _ us hl => by obtain ⟨_, _, rfl⟩ := us_2 hl; rfl, ok_with_barriers F27 T c_check_places c_bare_steps k_RawPlan⟩⟩
  have o_Plan___init__ := ok_Plan___init__ (P := l.prog) (w := w) (base := base) F28 T c_Plan_keep c_RawPlan_keep c_is_state c_is_disk_step c_is_deed_step
  have b_Plan___init__ : Binds K _ ["self", "state", "steps"] [] := F28.binds (ps := ["self", "state", "steps"]) fun _ _ _ _ _ _ us hl => by obtain ⟨_, _, _, rfl⟩ := us_3 hl; rfl
  have k_Plan : MakOk l.prog w K mg base "Plan" 6 ["self", "state", "steps"] (spM K mg m_Plan___init__) := ⟨⟨D0, f28, _, oa0, PySem.W.mg_of X G oa0, ⟨mk0, m22, i28, kc0⟩, b_Plan___init__, o_Plan___init__⟩⟩
  have c__law_told : Has l.prog w K mg base "_law_told" 6 ["plan", "lot"] (spM K mg m__law_told) := ⟨⟨f29, _, PySem.W.mg_of X G a29, k29, F29.binds (ps := ["plan", "lot"]) fun _ _ _ _ _ _ us hl => by obtain ⟨_, _, rfl⟩ := us_2 hl; rfl, ok__law_told F29 T c_Plan_steps c_RawPlan_steps c_with_barriers⟩⟩
  have c__law_long_right : Has l.prog w K mg base "_law_long_right" 8 ["hand"] (spM K mg m__law_long_right) := ⟨⟨f30, _, PySem.W.mg_of X G a30, k30, F30.binds (ps := ["hand"]) fun _ _ _ _ _ _ us hl => by obtain ⟨_, rfl⟩ := us_1 hl; rfl, ok__law_long_right F30 T k_Plan c_with_barriers c__law_draw c_RawPlan___eq__ c_Plan_steps c_RawPlan_steps c__law_with c_places c_bare⟩⟩
  exact (ok_law F31 T c__law_hand c__law_pool c__law_steps k_Plan c__law_bare c_with_barriers c__law_draw c__law_long_right c_RawPlan___eq__ c_places c__law_told c__law_any c_bare c_Plan_steps c_RawPlan_steps c__law_with c_Plan_state c_RawPlan_state).imp fun vs H Q E h => sp_law ht h
end My
open PySem PySem.W PyProof.Rows
set_option maxHeartbeats 0 in
theorem PySem.Challenge.cw_tornsectors_k18_whole_plans_and_their_ba_holds : PySem.Challenge.rw_tornsectors_k18_whole_plans_and_their_ba.Holds := by
  w_on; o_law
  refine HandSHeadRun.head_any (r := OpenLaw.row PySem.Challenge.rw_tornsectors_k18_whole_plans_and_their_ba) (q := PySem.W.view (OpenLaw.row PySem.Challenge.rw_tornsectors_k18_whole_plans_and_their_ba).prog [39]) (H := PySem.W.kHook SH.Kh SH.asK SH.as_eq) (ob := SH.ob) (M := 8000) (loose := SH.names) (d := HandSHeadRun.topDef (OpenLaw.row PySem.Challenge.rw_tornsectors_k18_whole_plans_and_their_ba).prog 39) (kwd := []) SH.ob_eq (by kernel_rfl) (fun s => by kernel_rfl) SH.run (by kernel_rfl) (by kernel_rfl) (by kernel_rfl) (by rfl) (by first | assumption | decide +kernel) (by decide +kernel) ⟨rfl, rfl, rfl, rfl, rfl, by decide +kernel⟩ ?hw ?hc
  case hw => w_witness2
  k_fill
  refine L2.walk_of (k := 9) (l := PySem.Challenge.rw_tornsectors_k18_whole_plans_and_their_ba) (n := 63) (x := "script") (CX := fun w => L2.CX PySem.Challenge.rw_tornsectors_k18_whole_plans_and_their_ba.prog w) (sp := fun w => AB.spLaw _) rfl (by decide) (by kernel_rfl) ⟨rfl, by decide, by decide⟩ (fun w h Y => PySem.W.kIn_of Y) ?F (fun _ _ a ns hl _ hS => ⟨a, ns, rfl, hS, hl, fun _ => rfl⟩) (fun _ _ _ _ _ h => AB.cx_false h)
  case F =>
    intro w mg fa h KX G hmg0
    have hmg : mg ("law" : PySem.Str) = some (.ref fa) := by
      have e : (HandSHeadRun.topDef (OpenLaw.row PySem.Challenge.rw_tornsectors_k18_whole_plans_and_their_ba).prog 39).name = ("law" : PySem.Str) := by kernel_rfl
      rw [← e]
      exact hmg0
    refine' My.all_mk KX G hmg My.law_true ?eg0 ?ea0a ?ea0b ?ea0c ?es0 ?cs1 ?cs2 ?oa0 ?pg0 ?hd0 ?po0 ?sa0 ?mk0 ?kc0 ?oa1 ?pg1 ?hd1 ?po1 ?sa1 ?mk1 ?kc1 ?tc0 ?to0 ?tc1 ?to1 ?nm0 ?no0 ?nn0 ?nn1 ?ot0 ?os0 ?os1 ?nf0 ?nf1 ?nf2 ?nf3 ?a0 ?l0 ?c0 ?k0 ?a1 ?l1 ?c1 ?k1 ?m2 ?m15 ?i2 ?l2 ?c2 ?k2 ?a3 ?l3 ?c3 ?k3 ?a4 ?l4 ?c4 ?k4 ?a5 ?l5 ?c5 ?k5 ?a6 ?l6 ?c6 ?k6 ?m3 ?m4 ?i7 ?l7 ?c7 ?k7 ?m19 ?m20 ?i8 ?l8 ?c8 ?k8 ?a9 ?l9 ?c9 ?k9 ?a10 ?l10 ?c10 ?k10 ?m33 ?m34 ?i11 ?l11 ?c11 ?k11 ?a12 ?l12 ?c12 ?k12 ?a13 ?l13 ?c13 ?k13 ?a14 ?l14 ?c14 ?k14 ?m12 ?i15 ?l15 ?c15 ?k15 ?m23 ?i16 ?l16 ?c16 ?k16 ?a17 ?l17 ?c17 ?k17 ?a18 ?l18 ?c18 ?k18 ?a19 ?l19 ?c19 ?k19 ?a20 ?l20 ?c20 ?k20 ?a21 ?l21 ?c21 ?k21 ?a22 ?l22 ?c22 ?k22 ?a23 ?l23 ?c23 ?k23 ?a24 ?l24 ?c24 ?k24 ?a25 ?l25 ?c25 ?k25 ?a26 ?l26 ?c26 ?k26 ?a27 ?l27 ?c27 ?k27 ?m22 ?i28 ?l28 ?c28 ?k28 ?a29 ?l29 ?c29 ?k29 ?a30 ?l30 ?c30 ?k30 ?a31 ?l31 ?c31 ?k31 ?z0 ?z1 ?z2 ?z3 ?z4 ?z5 ?z6 ?z7 ?z8 ?z9 ?z10 ?z11 ?z12 ?z13 ?y0 ?y1 ?y2 ?y3 ?xg0 ?xk0 ?xe0 ?xs0 ?xt0
    (case eg0 => k_is); (case ea0a => k_is); (case ea0b => k_is); (case ea0c => k_is); (case es0 => first | k_is | rfl); (case cs1 => k_is); (case cs2 => k_is); (case oa0 => k_is); (case pg0 => k_is); (case hd0 => k_is); (case po0 => k_is); (case sa0 => k_is); (case mk0 => k_is); (case kc0 => k_is); (case oa1 => k_is); (case pg1 => k_is); (case hd1 => k_is); (case po1 => k_is); (case sa1 => k_is); (case mk1 => k_is); (case kc1 => k_is); (case tc0 => k_is); (case to0 => k_is); (case tc1 => k_is); (case to1 => k_is); (case nm0 => k_is); (case no0 => k_is); (case nn0 => k_is); (case nn1 => k_is); (case ot0 => k_is); (case os0 => first | k_is | rfl); (case os1 => first | k_is | rfl); (case nf0 => k_is); (case nf1 => k_is); (case nf2 => k_is); (case nf3 => k_is); (case a0 => k_is); (case l0 => k_is); (case c0 => k_is); (case k0 => k_is); (case a1 => k_is); (case l1 => k_is); (case c1 => k_is); (case k1 => k_is); (case m2 => k_is); (case m15 => k_is); (case i2 => k_is); (case l2 => k_is); (case c2 => k_is); (case k2 => k_is); (case a3 => k_is); (case l3 => k_is); (case c3 => k_is); (case k3 => k_is); (case a4 => k_is); (case l4 => k_is); (case c4 => k_is); (case k4 => k_is); (case a5 => k_is); (case l5 => k_is); (case c5 => k_is); (case k5 => k_is); (case a6 => k_is); (case l6 => k_is); (case c6 => k_is); (case k6 => k_is); (case m3 => k_is); (case m4 => k_is); (case i7 => k_is); (case l7 => k_is); (case c7 => k_is); (case k7 => k_is); (case m19 => k_is); (case m20 => k_is); (case i8 => k_is); (case l8 => k_is); (case c8 => k_is); (case k8 => k_is); (case a9 => k_is); (case l9 => k_is); (case c9 => k_is); (case k9 => k_is); (case a10 => k_is); (case l10 => k_is); (case c10 => k_is); (case k10 => k_is); (case m33 => k_is); (case m34 => k_is); (case i11 => k_is); (case l11 => k_is); (case c11 => k_is); (case k11 => k_is); (case a12 => k_is); (case l12 => k_is); (case c12 => k_is); (case k12 => k_is); (case a13 => k_is); (case l13 => k_is); (case c13 => k_is); (case k13 => k_is); (case a14 => k_is); (case l14 => k_is); (case c14 => k_is); (case k14 => k_is); (case m12 => k_is); (case i15 => k_is); (case l15 => k_is); (case c15 => k_is); (case k15 => k_is); (case m23 => k_is); (case i16 => k_is); (case l16 => k_is); (case c16 => k_is); (case k16 => k_is); (case a17 => k_is); (case l17 => k_is); (case c17 => k_is); (case k17 => k_is); (case a18 => k_is); (case l18 => k_is); (case c18 => k_is); (case k18 => k_is); (case a19 => k_is); (case l19 => k_is); (case c19 => k_is); (case k19 => k_is); (case a20 => k_is); (case l20 => k_is); (case c20 => k_is); (case k20 => k_is); (case a21 => k_is); (case l21 => k_is); (case c21 => k_is); (case k21 => k_is); (case a22 => k_is); (case l22 => k_is); (case c22 => k_is); (case k22 => k_is); (case a23 => k_is); (case l23 => k_is); (case c23 => k_is); (case k23 => k_is); (case a24 => k_is); (case l24 => k_is); (case c24 => k_is); (case k24 => k_is); (case a25 => k_is); (case l25 => k_is); (case c25 => k_is); (case k25 => k_is); (case a26 => k_is); (case l26 => k_is); (case c26 => k_is); (case k26 => k_is); (case a27 => k_is); (case l27 => k_is); (case c27 => k_is); (case k27 => k_is); (case m22 => k_is); (case i28 => k_is); (case l28 => k_is); (case c28 => k_is); (case k28 => k_is); (case a29 => k_is); (case l29 => k_is); (case c29 => k_is); (case k29 => k_is); (case a30 => k_is); (case l30 => k_is); (case c30 => k_is); (case k30 => k_is); (case a31 => k_is); (case l31 => k_is); (case c31 => k_is); (case k31 => k_is); (case z0 => k_is); (case z1 => k_is); (case z2 => k_is); (case z3 => k_is); (case z4 => k_is); (case z5 => k_is); (case z6 => k_is); (case z7 => k_is); (case z8 => k_is); (case z9 => k_is); (case z10 => k_is); (case z11 => k_is); (case z12 => k_is); (case z13 => k_is); (case y0 => k_is); (case y1 => k_is); (case y2 => k_is); (case y3 => k_is); (case xg0 => k_is); (case xk0 => k_is); (case xe0 => k_exc); (case xs0 => k_is); (case xt0 => k_is)
